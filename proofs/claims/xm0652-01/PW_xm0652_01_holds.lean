import PyProof.Rows.All
import Wide.All
import OpenK.AllK
import Wide.FinOn
import PySem.Challenge.RW_xm0652_01
open PySem PySem.W PySem.Calls PyProof.Rows
set_option Elab.async false
namespace Mine
set_option maxRecDepth 100000 in
set_option maxHeartbeats 8000000 in
open_top hd for PySem.Challenge.rw_xm0652_01
set_option maxRecDepth 100000
set_option compiler.extract_closed false
section
abbrev Led := List (Addr × Obj)

/-- what a call of the def at f with these arguments leaves: from this ledger to one with Out -/
def CallsTo (prog : Program) (w : World) (K : Frag) (p : Program) (loose : List Str) (mean : ExcName → Option Value) (mg mb : Str → Option Value) (f : Addr) (d u : Nat) (vs : List Value) (news : Led) (Out : Value → Led → Prop) : Prop :=
  ∀ (dp un : Nat) (gd : Option (List Code)) (cn : Str) (cs : Scope) (a : Addr) (ccd : Value) (cl : List (Str × Addr)) (outer : List Env) (A₀ : Around) (base h₀ : Heap) (L : Addr) (m : Str → Option Value) (s : Shared) (Q E : Value → Shared → Prop),
    Below A₀ base outer h₀ → Fr h₀ L s.heap m → K.In h₀ → News h₀ L s.heap news → Top p loose mean mg mb h₀ → cs.kind = .function → dp + d < recursionLimit → un + u < cLine →
    (∀ (r : Value) (news' : Led) (h' : Heap) (tk' : Nat), Fr h₀ L h' m → News h₀ L h' news' → Out r news' → Q r { s with heap := h', toks := tk' }) →
    wpAny (model prog w) (ktrTop dp un gd cn cs L a ccd cl outer) (call (.ref f) vs) Q E s

/-- the source: a list of two ints -/
abbrev srcObj (a b : Int) (ta tb : Tok) (n : Nat) : Obj := { cls := .type "list", data := .seq #[.int a ta, .int b tb] n }

def OffAll (d : Addr) (rest : Led) : Prop := ∀ p ∈ rest, p.1 ≠ d

def TakeC (prog : Program) (w : World) (K : Frag) (p : Program) (loose : List Str) (mean : ExcName → Option Value) (mg mb : Str → Option Value) (f : Addr) : Prop :=
  ∀ (src : Addr) (a b : Int) (ta tb : Tok) (n : Nat) (top : Int) (tt : Tok) (rest : Led), 0 ≤ a → 0 ≤ b → b < 2147483647 → 0 < top → top < 1000000000 → OffAll src rest →
    CallsTo prog w K p loose mean mg mb f 1 8 [.ref src, .int top tt] ((src, srcObj a b ta tb n) :: rest)
      fun r news' => ∃ (v : Int) (t : Tok) (a' b' : Int) (ta' tb' : Tok) (n' : Nat), r = .int v t ∧ 0 ≤ v ∧ v < top ∧ 0 ≤ a' ∧ 0 ≤ b' ∧ b' < 2147483647 ∧ news' = (src, srcObj a' b' ta' tb' n') :: rest
theorem OffAll.out {d : Addr} {rest : Led} (h : OffAll d rest) : ∀ p ∈ rest, p.1 ≠ d := h
theorem offLt {d : Addr} {rest : Led} (h : AllLt d rest) : ∀ p ∈ rest, p.1 ≠ d := fun p hp => Nat.ne_of_lt (ktn_ltOf h p hp)
theorem src0 {prog : Program} {w : World} {A : Around} {E : Value → Shared → Prop} {s : Shared} {h₀ : Heap} {L D : Addr} {news : Led} {v0 v1 : Value} {n : Nat} {u : Tok} {value slice : PySem.Expr} {Q : Value → Shared → Prop}
    (N : News h₀ L s.heap news) (hm : (D, ({ cls := .type "list", data := .seq #[v0, v1] n } : Obj)) ∈ news) (h : Q v0 s)
    (hs : subscripted slice false (.ref D) (.int 0 u) = operate [.ref D, .int 0 u] (getItem (.ref D) (.int 0 u)) := by with_unfolding_all rfl) :
    wpAny (model prog w) A (subscriptTail value slice (.ref D) (.int 0 u)) Q E s :=
  have hl : s.heap.IsList D #[v0, v1] := PySem.IsL.isList (n := n) (N _ hm).1
  tail_any hl.typeIs slot_list_getitem.lookup (wpAny_getItem_list hl (by decide) (by decide) (by rfl) h) hs
theorem src1 {prog : Program} {w : World} {A : Around} {E : Value → Shared → Prop} {s : Shared} {h₀ : Heap} {L D : Addr} {news : Led} {v0 v1 : Value} {n : Nat} {u : Tok} {value slice : PySem.Expr} {Q : Value → Shared → Prop}
    (N : News h₀ L s.heap news) (hm : (D, ({ cls := .type "list", data := .seq #[v0, v1] n } : Obj)) ∈ news) (h : Q v1 s)
    (hs : subscripted slice false (.ref D) (.int 1 u) = operate [.ref D, .int 1 u] (getItem (.ref D) (.int 1 u)) := by with_unfolding_all rfl) :
    wpAny (model prog w) A (subscriptTail value slice (.ref D) (.int 1 u)) Q E s :=
  have hl : s.heap.IsList D #[v0, v1] := PySem.IsL.isList (n := n) (N _ hm).1
  tail_any hl.typeIs slot_list_getitem.lookup (wpAny_getItem_list hl (by decide) (by decide) (by rfl) h) hs
theorem mulOk_mod {x y : Int} : IntMulOk (x.fmod 2147483647) y :=
  IntMulOk.of_left (intBits_le_64 (by rw [Int.fmod_eq_emod_of_nonneg _ (by decide)]; omega) (by rw [Int.fmod_eq_emod_of_nonneg _ (by decide)]; omega))
theorem fmod_rng {x y : Int} (h : 0 < y) : 0 ≤ x.fmod y ∧ x.fmod y < y := by
  rw [Int.fmod_eq_emod_of_nonneg _ (Int.le_of_lt h)]
  exact ⟨Int.emod_nonneg _ (Int.ne_of_gt h), Int.emod_lt_of_pos _ h⟩
theorem fdiv_nn {x y : Int} (h : 0 ≤ x) (hy : 0 < y) : 0 ≤ x.fdiv y := by
  rw [Int.fdiv_eq_ediv_of_nonneg _ (Int.le_of_lt hy)]
  exact Int.ediv_nonneg h (Int.le_of_lt hy)
theorem use {prog : Program} {w : World} {K : Frag} {p : Program} {loose : List Str} {mean : ExcName → Option Value} {mg mb : Str → Option Value} {f : Addr} {d u : Nat} {vs : List Value} {news : Led} {Out : Value → Led → Prop}
    {dp un : Nat} {gd : Option (List Code)} {cn : Str} {cs : Scope} {a : Addr} {ccd : Value} {cl : List (Str × Addr)} {outer : List Env} {A₀ : Around} {base h₀ : Heap} {L : Addr} {m : Str → Option Value} {s : Shared} {Q E : Value → Shared → Prop}
    (C : CallsTo prog w K p loose mean mg mb f d u vs news Out) (B : Below A₀ base outer h₀) (F : Fr h₀ L s.heap m) (X : K.In h₀) (N : News h₀ L s.heap news) (T : Top p loose mean mg mb h₀) (hk : cs.kind = .function) (hd : dp + d < recursionLimit) (hu : un + u < cLine)
    (ret : ∀ (r : Value) (news' : Led) (h' : Heap) (tk' : Nat), Fr h₀ L h' m → News h₀ L h' news' → Out r news' → Q r { s with heap := h', toks := tk' }) :
    wpAny (model prog w) (ktrTop dp un gd cn cs L a ccd cl outer) (call (.ref f) vs) Q E s := C _ _ _ _ _ _ _ _ _ _ _ _ _ _ _ _ _ B F X N T hk hd hu ret
/-- one object taken out of the ledger -/
inductive Pull (d : Addr) (o : Obj) : Led → Led → Prop
  | head {r : Led} : Pull d o ((d, o) :: r) r
  | tail {p : Addr × Obj} {r r' : Led} : Pull d o r r' → Pull d o (p :: r) (p :: r')
theorem Pull.mem {d : Addr} {o : Obj} {l r : Led} (P : Pull d o l r) : ∀ q ∈ (d, o) :: r, q ∈ l := by
  induction P with
  | head => exact fun q hq => hq
  | tail _ ih =>
    intro q hq
    rcases List.mem_cons.mp hq with rfl | hq
    · exact .tail _ (ih _ (.head _))
    · rcases List.mem_cons.mp hq with rfl | hq
      · exact .head _
      · exact .tail _ (ih _ (.tail _ hq))
theorem Pull.news {d : Addr} {o : Obj} {l r : Led} {h₀ h : Heap} {L : Addr} (P : Pull d o l r) (N : News h₀ L h l) : News h₀ L h ((d, o) :: r) := fun q hq => N q (P.mem q hq)
theorem sub_cons {a : Addr × Obj} {l n : Led} (h1 : a ∈ n) (h2 : ∀ p ∈ l, p ∈ n) : ∀ p ∈ a :: l, p ∈ n := List.forall_mem_cons.mpr ⟨h1, h2⟩
theorem sub_tail {a : Addr × Obj} {l n : Led} (h : ∀ p ∈ l, p ∈ n) : ∀ p ∈ l, p ∈ a :: n := fun p hp => .tail _ (h p hp)
theorem sub_refl {l : Led} : ∀ p ∈ l, p ∈ l := fun _ h => h
theorem andR {p q : Prop} (h : p ∧ q) : q := h.2
end
local macro_rules | `(tactic| walk_at "xm_enterC") => `(tactic| (refine' code_defC ?k1 ?k2 ?k3 ?k4 ?k5 ?kA ?kF ?kK ?k6 ?k7 ?k8 ?k9 ?kB ?kD ?_ ?c2 ?c3 ?c4; (case kA => exact rfl); (case kF => exact rfl); (case kK => assumption); (case k1 => k_asm); (case k2 => k_asm); (case k3 => k_asm); (case k4 => k_asm); (case k5 => k_asm); (case k6 => k_is); (case k7 => k_is); (case k8 => ktr_room); (case k9 => exact BindsTo.of_eq rfl); (case kB => exact rfl); (case kD => decide +kernel); (case c2 => exact rfl); (case c3 => exact rfl); (case c4 => exact rfl); k_whole; intro g' L' h' tk' cells' FG' F' N' Y' B' X' T' l1; (try k_lt l1); k_cells Y'; (try simp only [List.cons_append, List.nil_append] at N'); (try dsimp only); (try k_lift B'); (try k_fold)))
local macro_rules | `(tactic| walk_at "xm_pull") => `(tactic| (first | exact Pull.head | (refine' Pull.tail ?xmt; (case xmt => walk_at "xm_pull"))))
local macro_rules | `(tactic| walk_at "xm_enterK") => `(tactic| (refine' code_def ?k1 ?k2 ?k3 ?k4 ?k5 ?kA ?kF ?kK ?k6 ?k7 ?k8 ?k9 ?kB ?_ ?c2 ?c3 ?c4 ?c5; (case kA => exact rfl); (case kF => exact rfl); (case kK => first | exact rfl | assumption); (case k1 => k_asm); (case k2 => k_asm); (case k3 => k_asm); (case k4 => k_asm); (case k5 => k_asm); (case k6 => k_is); (case k7 => k_is); (case k8 => ktr_room); (case k9 => exact BindsTo.of_eq rfl); (case c5 => decide); (case kB => exact locs rfl); (case c2 => exact rfl); (case c3 => exact rfl); (case c4 => exact rfl); k_whole; intro g' L' h' FG' F' N' B' X' T'; (try dsimp only); (try k_lift B'); (try k_fold)))
local macro_rules | `(tactic| walk_at "xm_sub") => `(tactic| (refine sub_cons ?xsh ?xsl; (case xsh => repeat (first | exact List.Mem.head _ | apply List.Mem.tail)); (case xsl => repeat (first | exact sub_refl | refine sub_tail ?_))))
section
local macro_rules | `(tactic| k_all) => `(tactic| first | exact OffAll.out (by with_reducible assumption) | exact offLt (by with_reducible assumption) | exact offLt (andR (by with_reducible assumption)) | exact offLt (andR (andR (by with_reducible assumption))))
local macro_rules | `(tactic| walk_at "subscriptTail") => `(tactic| (k_here; (with_reducible show wpAny _ _ (subscriptTail _ _ (Value.ref _) (Value.int 0 _)) _ _ _); k_dflt (refine' src0 ?k1 ?k2 ?_ ?k7; (case k1 => k_asm); (case k2 => k_mem); (case k7 => with_unfolding_all rfl); k_whole)))
local macro_rules | `(tactic| walk_at "subscriptTail") => `(tactic| (k_here; (with_reducible show wpAny _ _ (subscriptTail _ _ (Value.ref _) (Value.int 1 _)) _ _ _); k_dflt (refine' src1 ?k1 ?k2 ?_ ?k7; (case k1 => k_asm); (case k2 => k_mem); (case k7 => with_unfolding_all rfl); k_whole)))
local macro_rules | `(tactic| walk_at "binaryOp Mult int int") => `(tactic| (k_here; refine mul_int ?_ mulOk_mod))
theorem fill0 : PySem.Challenge.rw_xm0652_01 = PySem.Challenge.rw_xm0652_01 ∧ hd.heap_39 = hd.heap_39 := by
  k_fill
  exact ⟨rfl, rfl⟩

set_option maxHeartbeats 8000000 in
theorem take_ok {prog : Program} {w : World} {p : Program} {loose : List Str} {mean : ExcName → Option Value} {mg mb : Str → Option Value} :
    TakeC prog w (hd.heap_39 w.params) p loose mean mg mb 86 := by
  intro src a b ta tb n top tt rest ha hb hb2 ht ht2 hoff
  intro dp un gd cn cs fa ccd cl outer A₀ base h₀ L m s Q E B F X N T hk hd hu hret
  refine wpAny_call ?_
  k_dflt ktr_enter
  k_steps
  · (rename Fr h₀ L _ m => kF)
    (rename News h₀ L _ _ => kN)
    exact hret _ _ _ _ kF kN ⟨_, _, _, _, _, _, _, rfl, (fmod_rng ht).1, (fmod_rng ht).2, fdiv_nn ha ht, hb, hb2, rfl⟩
  · (rename Fr h₀ L _ m => kF)
    (rename News h₀ L _ _ => kN)
    exact hret _ _ _ _ kF kN ⟨_, _, _, _, _, _, _, rfl, (fmod_rng ht).1, (fmod_rng ht).2, ha, (fmod_rng (by decide)).1, (fmod_rng (by decide)).2, rfl⟩
end
section
/-- the codes of a text -/
abbrev cs (x : Str) : List Nat := x.cps.toList
theorem cs_len (x : Str) : (cs x).length = x.length := by simp [cs, Str.length]
/-- blanks, as the code writes them -/
def spaces : List Nat := [32, 9, 10, 13]
theorem str_at {prog : Program} {w : World} {A : Around} {E : Value → Shared → Prop} {s : Shared} {value slice : PySem.Expr} {x : Str} {t u : Tok} {i : Int} {Q : Value → Shared → Prop}
    (h0 : 0 ≤ i) (h1 : i < x.length) (hn : x.length ≤ 16777216) (h : ∀ c, (cs x)[i.toNat]? = some c → Q (.str ⟨#[c]⟩ s.toks) { s with toks := s.toks + 1 })
    (hs : subscripted slice false (.str x t) (.int i u) = operate [.str x t, .int i u] (getItem (.str x t) (.int i u)) := by with_unfolding_all rfl)
    (ht : ∀ r, letTemporaryGo value (.str x t) r = pure () := by intro _; with_unfolding_all rfl) :
    wpAny (model prog w) A (subscriptTail value slice (.str x t) (.int i u)) Q E s := by
  refine item_str (fitsSsize_of (N := 9223372036854775808) (by omega) (by omega) (Int.le_refl _)) (by omega) (by omega) (fun _ => ?_) hs ht
  obtain ⟨c, hc⟩ := StrLaws.some_at h0 h1
  rw [item_meets h0 hc]
  refine h c ?_
  rw [Array.getElem?_toList]
  exact hc
theorem str_in {prog : Program} {w : World} {A : Around} {E : Value → Shared → Prop} {s : Shared} {c : Nat} {y : Str} {t u : Tok} {Q : Value → Shared → Prop} {l : List Nat} (hl : y.cps.toList = l) (h : Q (.bool (decide (c ∈ l))) s) :
    wpAny (model prog w) A (compareOp .In (.str ⟨#[c]⟩ u) (.str y t)) Q E s := by
  refine in_str ?_
  rw [StrLaws.found_one, hl]
  exact h
theorem str_notIn {prog : Program} {w : World} {A : Around} {E : Value → Shared → Prop} {s : Shared} {c : Nat} {y : Str} {t u : Tok} {Q : Value → Shared → Prop} {l : List Nat} (hl : y.cps.toList = l) (h : Q (.bool (!decide (c ∈ l))) s) :
    wpAny (model prog w) A (compareOp .NotIn (.str ⟨#[c]⟩ u) (.str y t)) Q E s := by
  refine notIn_str ?_
  rw [StrLaws.found_one, hl]
  exact h
theorem spaces_is : (Str.ofString " \t\n\x0d").cps.toList = spaces := by decide +kernel

def isSp (c : Nat) : Bool := spaces.contains c
/-- the text without blanks at its ends -/
def trimL (l : List Nat) : List Nat := ((l.dropWhile isSp).reverse.dropWhile isSp).reverse
def trimS (x : Str) : Str := ⟨(trimL (cs x)).toArray⟩

theorem dropWhile_all {p : Nat → Bool} : ∀ {l r : List Nat}, (∀ c ∈ l, p c = true) → (l ++ r).dropWhile p = r.dropWhile p
  | [], _, _ => rfl
  | a :: l, r, h => by
    rw [List.cons_append, List.dropWhile_cons_of_pos (h a (.head _))]
    exact dropWhile_all fun c hc => h c (.tail _ hc)
theorem trimL_mid {pre mid post : List Nat} (h1 : ∀ c ∈ pre, isSp c = true) (h2 : ∀ c ∈ post, isSp c = true) (hh : ∀ c, mid.head? = some c → isSp c = false) (hl : ∀ c, mid.getLast? = some c → isSp c = false) :
    trimL (pre ++ (mid ++ post)) = mid := by
  unfold trimL
  rw [dropWhile_all h1]
  cases mid with
  | nil =>
    have : (([] : List Nat) ++ post).dropWhile isSp = [] := by
      have e := dropWhile_all (r := []) h2
      rw [List.append_nil] at e
      rw [List.nil_append, e]; rfl
    rw [this]; rfl
  | cons a r =>
    have e : ((a :: r) ++ post).dropWhile isSp = (a :: r) ++ post := by
      rw [List.cons_append, List.dropWhile_cons_of_neg]
      have := hh a rfl
      simp [this]
    rw [e, List.reverse_append, dropWhile_all fun c hc => h2 c (List.mem_reverse.mp hc)]
    obtain ⟨r', z, hz⟩ : ∃ r' z, a :: r = r' ++ [z] := ⟨(a :: r).dropLast, (a :: r).getLast (by simp), (List.dropLast_concat_getLast (by simp)).symm⟩
    have hzl := hl z (by rw [hz]; simp)
    rw [hz, List.reverse_append]
    show (List.dropWhile isSp (z :: r'.reverse)).reverse = _
    rw [List.dropWhile_cons_of_neg (by simp [hzl])]
    simp
/-- blanks up to b, blanks from e on -/
def SpTo (l : List Nat) (b : Nat) : Prop := ∀ i c, i < b → l[i]? = some c → isSp c = true
def SpFrom (l : List Nat) (e : Nat) : Prop := ∀ i c, e ≤ i → l[i]? = some c → isSp c = true
theorem trimL_cut {l : List Nat} {b e : Nat} (hbe : b ≤ e) (hel : e ≤ l.length) (h1 : SpTo l b) (h2 : SpFrom l e) (hb : ∀ c, b < e → l[b]? = some c → isSp c = false) (he : ∀ c, b < e → l[e - 1]? = some c → isSp c = false) :
    trimL l = (l.drop b).take (e - b) := by
  have e1 : l = l.take b ++ ((l.drop b).take (e - b) ++ l.drop e) := by
    have : (l.drop b).drop (e - b) = l.drop e := by rw [List.drop_drop]; congr 1; omega
    rw [← this, List.take_append_drop, List.take_append_drop]
  have h1' : ∀ c ∈ l.take b, isSp c = true := fun c hc => by
    obtain ⟨i, hi⟩ := List.mem_iff_getElem?.mp hc
    rw [List.getElem?_take] at hi
    split at hi
    · exact h1 i c ‹_› hi
    · cases hi
  have h2' : ∀ c ∈ l.drop e, isSp c = true := fun c hc => by
    obtain ⟨i, hi⟩ := List.mem_iff_getElem?.mp hc
    rw [List.getElem?_drop] at hi
    exact h2 _ c (by omega) hi
  conv => lhs; rw [e1]
  refine trimL_mid h1' h2' (fun c hc => ?_) fun c hc => ?_
  · by_cases hlt : b < e
    · refine hb c hlt ?_
      rw [List.head?_eq_getElem?, List.getElem?_take_of_lt (by omega), List.getElem?_drop] at hc
      simpa using hc
    · have : e - b = 0 := by omega
      rw [this] at hc
      simp at hc
  · by_cases hlt : b < e
    · refine he c hlt ?_
      rw [List.getLast?_eq_getElem?, List.length_take, List.length_drop, List.getElem?_take_of_lt (by omega), List.getElem?_drop] at hc
      rw [show b + (min (e - b) (l.length - b) - 1) = e - 1 by omega] at hc
      exact hc
    · have : e - b = 0 := by omega
      rw [this] at hc
      simp at hc
theorem slice_nat {x : Str} {i j : Int} (h0 : 0 ≤ i) (h1 : i ≤ j) (h2 : j ≤ x.length) : Txt.slice x (some i) (some j) = ⟨(((cs x).drop i.toNat).take (j.toNat - i.toNat)).toArray⟩ := by
  have e : (j - i).toNat = j.toNat - i.toNat := by omega
  have l := cs_len x
  rw [← e]
  exact StrLaws.sliceText_plain ⟨h0, h1, by have : (cs x).length = x.cps.toList.length := rfl; omega⟩

def TrA (x : Str) (b : Int) : Prop := 0 ≤ b ∧ b ≤ x.length ∧ SpTo (cs x) b.toNat
def TrB (x : Str) (b e : Int) : Prop := 0 ≤ b ∧ b ≤ e ∧ e ≤ x.length ∧ SpTo (cs x) b.toNat ∧ SpFrom (cs x) e.toNat ∧ ∀ c, (cs x)[b.toNat]? = some c → isSp c = false
theorem sp_in {c : Nat} (h : c ∈ spaces) : isSp c = true := by unfold isSp; rw [List.contains_iff_mem]; exact h
theorem sp_out {c : Nat} (h : ¬ c ∈ spaces) : isSp c = false := by
  unfold isSp
  rw [← Bool.not_eq_true, List.contains_iff_mem]
  exact h
theorem spFrom_len {l : List Nat} {n : Nat} (h : l.length ≤ n) : SpFrom l n := fun i c hi hc => by
  obtain ⟨hlt, _⟩ := List.getElem?_eq_some_iff.mp hc
  omega
theorem trA0 {x : Str} : TrA x 0 := ⟨by omega, by omega, fun i c hi _ => absurd hi (Nat.not_lt_zero _)⟩
theorem trA_lo {x : Str} {b : Int} (h : TrA x b) : 0 ≤ b := h.1
theorem trA_step {x : Str} {b : Int} {c : Nat} (h : TrA x b) (hb : b < x.length) (hc : (cs x)[b.toNat]? = some c) (hm : c ∈ spaces) : TrA x (b + 1) := by
  obtain ⟨h0, h1, h2⟩ := h
  refine ⟨by omega, by omega, fun i d hi hd => ?_⟩
  by_cases e : i = b.toNat
  · subst e
    rw [hc] at hd
    cases hd
    exact sp_in hm
  · exact h2 i d (by omega) hd
theorem trA_less {x : Str} {b : Int} (h : TrA x b) (hb : b < x.length) : x.length - (b + 1).toNat < x.length - b.toNat := by
  have := h.1
  omega
theorem trB_start1 {x : Str} {b : Int} (h : TrA x b) (hb : ¬ b < x.length) : TrB x b x.length := by
  obtain ⟨h0, h1, h2⟩ := h
  have l := cs_len x
  refine ⟨h0, h1, by omega, h2, spFrom_len (by omega), fun c hc => ?_⟩
  obtain ⟨hlt, _⟩ := List.getElem?_eq_some_iff.mp hc
  omega
theorem trB_start2 {x : Str} {b : Int} {c : Nat} (h : TrA x b) (hc : (cs x)[b.toNat]? = some c) (hm : ¬ c ∈ spaces) : TrB x b x.length := by
  obtain ⟨h0, h1, h2⟩ := h
  have l := cs_len x
  refine ⟨h0, h1, by omega, h2, spFrom_len (by omega), fun d hd => ?_⟩
  rw [hc] at hd
  cases hd
  exact sp_out hm
theorem trB_lo {x : Str} {b e : Int} (h : TrB x b e) (hb : b < e) : 0 ≤ e - 1 := by have := h.1; omega
theorem trB_hi {x : Str} {b e : Int} (h : TrB x b e) : e - 1 < x.length := by have := h.2.2.1; omega
theorem trB_step {x : Str} {b e : Int} {c : Nat} (h : TrB x b e) (hb : b < e) (hc : (cs x)[(e - 1).toNat]? = some c) (hm : c ∈ spaces) : TrB x b (e - 1) := by
  obtain ⟨h0, h1, h2, h3, h4, h5⟩ := h
  refine ⟨h0, by omega, by omega, h3, fun i d hi hd => ?_, h5⟩
  by_cases q : i = (e - 1).toNat
  · subst q
    rw [hc] at hd
    cases hd
    exact sp_in hm
  · exact h4 i d (by omega) hd
theorem trB_less {x : Str} {b e : Int} (h : TrB x b e) (hb : b < e) : (e - 1).toNat < e.toNat := by
  have := h.1
  omega
theorem trB_end1 {x : Str} {b e : Int} (h : TrB x b e) (hb : ¬ b < e) : Txt.slice x (some b) (some e) = trimS x := by
  obtain ⟨h0, h1, h2, h3, h4, h5⟩ := h
  have l := cs_len x
  rw [slice_nat h0 h1 h2, trimS, trimL_cut (b := b.toNat) (e := e.toNat) (by omega) (by omega) h3 h4 (fun c hlt _ => absurd hlt (by omega)) fun c hlt _ => absurd hlt (by omega)]
theorem trB_end2 {x : Str} {b e : Int} {c : Nat} (h : TrB x b e) (hc : (cs x)[(e - 1).toNat]? = some c) (hm : ¬ c ∈ spaces) : Txt.slice x (some b) (some e) = trimS x := by
  obtain ⟨h0, h1, h2, h3, h4, h5⟩ := h
  have l := cs_len x
  rw [slice_nat h0 h1 h2, trimS, trimL_cut (b := b.toNat) (e := e.toNat) (by omega) (by omega) h3 h4 (fun d _ hd => h5 d hd) fun d _ hd => ?_]
  rw [show e.toNat - 1 = (e - 1).toNat by omega, hc] at hd
  cases hd
  exact sp_out hm
end
section
def CdInv (o t f s : Int) : Prop := 0 ≤ f ∧ 0 ≤ s ∧ Int.gcd f s = Int.gcd o t
theorem gcd_step {f s o t : Int} (hs : 0 < s) (h : CdInv o t f s) : CdInv o t s (f.fmod s) := by
  refine ⟨h.2.1, (fmod_rng hs).1, ?_⟩
  rw [← h.2.2, Int.fmod_eq_emod_of_nonneg _ h.2.1]
  obtain ⟨m, rfl⟩ := Int.eq_ofNat_of_zero_le h.1
  obtain ⟨n, rfl⟩ := Int.eq_ofNat_of_zero_le h.2.1
  rw [← Int.natCast_emod, Int.gcd_natCast_natCast, Int.gcd_natCast_natCast, Nat.gcd_comm n, ← Nat.gcd_rec, Nat.gcd_comm]
theorem gcd_start {o t : Int} (ht : 0 ≤ t) : CdInv o t (if o < 0 then -o else o) t := by
  refine ⟨by split <;> omega, ht, ?_⟩
  split
  · exact Int.neg_gcd
  · rfl
theorem gcd_less {f s : Int} (hs : 0 < s) : (f.fmod s).toNat < s.toNat := by
  have := fmod_rng (x := f) hs
  omega
theorem gcd_end {f s o t : Int} (hs : ¬ 0 < s) (h : CdInv o t f s) : f = (Int.gcd o t : Int) := by
  have e : s = 0 := by have := h.2.1; omega
  subst e
  rw [← h.2.2, Int.gcd_zero_right]
  have := h.1
  omega

def CdC (prog : Program) (w : World) (K : Frag) (p : Program) (loose : List Str) (mean : ExcName → Option Value) (mg mb : Str → Option Value) (f : Addr) : Prop :=
  ∀ (one other : Int) (t1 t2 : Tok) (news : Led), 0 ≤ other →
    CallsTo prog w K p loose mean mg mb f 1 8 [.int one t1, .int other t2] news
      fun r news' => ∃ (t : Tok), r = .int (Int.gcd one other) t ∧ news' = news
set_option maxHeartbeats 8000000 in
theorem cd_ok {prog : Program} {w : World} {p : Program} {loose : List Str} {mean : ExcName → Option Value} {mg mb : Str → Option Value} :
    CdC prog w (hd.heap_39 w.params) p loose mean mg mb 22 := by
  intro one other t1 t2 news ho
  intro dp un gd cn cs fa ccd cl outer A₀ base h₀ L m s Q E B F X N T hk hd hu hret
  refine wpAny_call ?_
  k_dflt ktr_enter
  k_with "state" => first | exact gcd_step (by assumption) (by assumption) | exact gcd_start (by assumption)
  k_with "measure" => exact gcd_less (by assumption)
  k_with "exec While Compare cons nil" => k_while_given ["one", "other"] (fun one other _ f s => CdInv one other f s) (fun _ _ _ f s => s.toNat) "first" "second"
  k_steps
  · (rename Fr h₀ L _ m => kF)
    (rename News h₀ L _ _ => kN)
    (rename CdInv _ _ _ _ => kI)
    rw [gcd_end (by assumption) kI]
    exact hret _ _ _ _ kF (cb_drop kN fun _ hp => .tail _ hp) ⟨_, rfl, rfl⟩
end
section
def TrimC (prog : Program) (w : World) (K : Frag) (p : Program) (loose : List Str) (mean : ExcName → Option Value) (mg mb : Str → Option Value) (f : Addr) : Prop :=
  ∀ (x : Str) (t1 : Tok) (news : Led), x.length ≤ 1000 →
    CallsTo prog w K p loose mean mg mb f 1 8 [.str x t1] news
      fun r news' => ∃ (t : Tok), r = .str (trimS x) t ∧ news' = news
local macro_rules | `(tactic| walk_at "subscriptTail") => `(tactic| (k_here; (with_reducible show wpAny _ _ (subscriptTail _ _ (Value.str _ _) (Value.int _ _)) _ _ _); k_dflt (refine' str_at ?k1 ?k2 ?k3 ?_ ?k7 ?k8; (case k1 => first | exact trA_lo (by assumption) | exact trB_lo (by assumption) (by assumption)); (case k2 => first | assumption | exact trB_hi (by assumption)); (case k3 => omega); (case k7 => with_unfolding_all rfl); (case k8 => intro _; with_unfolding_all rfl); k_whole); intro c' hc'))
local macro_rules | `(tactic| walk_at "compareOp In str str") => `(tactic| (k_here; (with_reducible show wpAny _ _ (compareOp CmpOp.In (Value.str (Str.mk _) _) (Value.str _ _)) _ _ _); k_dflt (refine' str_in spaces_is ?_; k_whole)))
set_option maxHeartbeats 8000000 in
theorem trim_ok {prog : Program} {w : World} {p : Program} {loose : List Str} {mean : ExcName → Option Value} {mg mb : Str → Option Value} :
    TrimC prog w (hd.heap_39 w.params) p loose mean mg mb 58 := by
  intro x t1 news hx
  intro dp un gd cn cs fa ccd cl outer A₀ base h₀ L m s Q E B F X N T hk hd hu hret
  refine wpAny_call ?_
  k_dflt ktr_enter
  w_top off
  k_with_none
  k_with "state" => first | exact trA0 | exact trA_step (by assumption) (by assumption) (by assumption) (by assumption) | exact trB_start1 (by assumption) (by assumption) | exact trB_start2 (by assumption) (by assumption) (by assumption) | exact trB_step (by assumption) (by assumption) (by assumption) (by assumption)
  k_with "measure" => first | exact trA_less (by assumption) (by assumption) | exact trB_less (by assumption) (by assumption)
  k_with "exec While BoolOp cons nil" => k_while_given ["text"] (fun x _ b => TrA x b) (fun x _ b => x.length - b.toNat) "begin"
  k_with "exec While BoolOp cons nil" => k_while_given ["text", "begin"] (fun x b _ e => TrB x b e) (fun x b _ e => e.toNat) "end"
  k_steps
  all_goals (
    (rename Fr h₀ L _ m => kF)
    (rename News h₀ L _ _ => kN)
    (first
      | rw [trB_end1 (by assumption) (by assumption)]
      | rw [trB_end2 (by assumption) (by assumption) (by assumption)])
    exact hret _ _ _ _ kF (cb_drop kN fun _ hp => by first | exact .tail _ hp | exact .tail _ (.tail _ hp)) ⟨_, rfl, rfl⟩)
end
section
def wholeI (l : List Int) : Int := l.foldl (fun n c => n * 10 + (c - 48)) 0
def Digs (l : List Int) : Prop := ∀ c ∈ l, 48 ≤ c ∧ c ≤ 57
def DigN (l : List Nat) : Prop := ∀ c ∈ l, 48 ≤ c ∧ c ≤ 57
def wN (l : List Nat) : Nat := l.foldl (fun n c => n * 10 + (c - 48)) 0
theorem digs_of {x : Str} (h : DigN (cs x)) : Digs (KStt.codes x) := fun c hc => by
  obtain ⟨n, hn, rfl⟩ := List.mem_map.mp hc
  have := h n hn
  omega
theorem wholeI_is {x : Str} (h : DigN (cs x)) : wholeI (KStt.codes x) = (wN (cs x) : Int) := by
  have go : ∀ (l : List Nat) (a : Nat), (∀ c ∈ l, 48 ≤ c ∧ c ≤ 57) → (l.map fun (c : Nat) => (c : Int)).foldl (fun n c => n * 10 + (c - 48)) (a : Int) = ((l.foldl (fun n c => n * 10 + (c - 48)) a : Nat) : Int) := by
    intro l
    induction l with
    | nil => intro a _; rfl
    | cons c r ih =>
      intro a hd
      have hc := hd c (.head _)
      rw [List.map_cons, List.foldl_cons, List.foldl_cons, ← ih _ fun d hd' => hd d (.tail _ hd')]
      congr 1
      omega
  exact go _ 0 h
def WholeC (prog : Program) (w : World) (K : Frag) (p : Program) (loose : List Str) (mean : ExcName → Option Value) (mg mb : Str → Option Value) (f : Addr) : Prop :=
  ∀ (x : Str) (t1 : Tok) (news : Led), x.length ≤ 100000 → DigN (cs x) →
    CallsTo prog w K p loose mean mg mb f 1 8 [.str x t1] news
      fun r news' => ∃ (t : Tok), r = .int (wN (cs x)) t ∧ news' = news
def WhInv (pre : List Int) (k : Int) : Prop := k = wholeI pre
theorem wh0 : WhInv [] 0 := rfl
theorem find_dig {n : Nat} (h : 48 ≤ n ∧ n ≤ 57) : Txt.find (Str.ofString "0123456789") ⟨#[n]⟩ = (n : Int) - 48 := by
  have : n = 48 ∨ n = 49 ∨ n = 50 ∨ n = 51 ∨ n = 52 ∨ n = 53 ∨ n = 54 ∨ n = 55 ∨ n = 56 ∨ n = 57 := by omega
  rcases this with rfl | rfl | rfl | rfl | rfl | rfl | rfl | rfl | rfl | rfl <;> decide +kernel
theorem digs_at {l pre post : List Int} {n : Nat} (hd : Digs l) (e : l = pre ++ (n : Int) :: post) : 48 ≤ n ∧ n ≤ 57 := by
  have := hd n (by rw [e]; simp)
  omega
theorem wh_abs {l pre post : List Int} {n : Nat} (hd : Digs l) (e : l = pre ++ (n : Int) :: post) (h : Txt.find (Str.ofString "0123456789") ⟨#[n]⟩ = -1) : False := by
  have := digs_at hd e
  rw [find_dig this] at h
  omega
theorem wh_step {l pre post : List Int} {n : Nat} {k : Int} (hd : Digs l) (e : l = pre ++ (n : Int) :: post) (h : WhInv pre k) : WhInv (pre ++ [(n : Int)]) (k * 10 + Txt.find (Str.ofString "0123456789") ⟨#[n]⟩) := by
  rw [find_dig (digs_at hd e)]
  unfold WhInv wholeI
  rw [List.foldl_append]
  show _ = List.foldl _ 0 pre * 10 + ((n : Int) - 48)
  rw [h]
  rfl
set_option maxHeartbeats 8000000 in
theorem whole_ok {prog : Program} {w : World} {p : Program} {loose : List Str} {mean : ExcName → Option Value} {mg mb : Str → Option Value} :
    WholeC prog w (hd.heap_39 w.params) p loose mean mg mb 65 := by
  intro x t1 news hx hdigN
  have hdig := digs_of hdigN
  intro dp un gd cn cs fa ccd cl outer A₀ base h₀ L m s Q E B F X N T hk hd hu hret
  refine wpAny_call ?_
  k_dflt ktr_enter
  w_top off
  k_with_none
  k_with "state" => first | exact wh0 | exact wh_step (by assumption) (by assumption) (by assumption)
  k_with "pyIter str" => k_state (fun pre k => WhInv pre k) "number"
  k_steps
  · exfalso
    exact wh_abs hdig (by assumption) (by assumption)
  · (rename Fr h₀ L _ m => kF)
    (rename News h₀ L _ _ => kN)
    (rename WhInv _ _ => kI)
    rw [kI, wholeI_is hdigN]
    exact hret _ _ _ _ kF kN ⟨_, rfl, rfl⟩
end
section
abbrev pairObj (a b : Int) (ta tb : Tok) : Obj := { cls := .type "tuple", data := .seq #[.int a ta, .int b tb] }
theorem bits_le {k : Int} {n : Nat} (hn : n + 1 ≤ 2 ^ 20) (h0 : 0 ≤ k) (h : k < ((2 ^ n : Nat) : Int)) : Builtin.Int.intBits k ≤ 2 ^ 20 := by
  unfold Builtin.Int.intBits
  split
  · exact Nat.zero_le _
  · have hk : k.natAbs ≠ 0 := by
      rename_i hz
      simp only [beq_iff_eq] at hz
      omega
    have h' : k.natAbs < 2 ^ n := by generalize 2 ^ n = q at h ⊢; omega
    have := (Nat.log2_lt hk).mpr h'
    exact Nat.le_trans (Nat.succ_le_succ (Nat.le_of_lt this)) hn
theorem cd_out {one other M : Int} {r : Value} {news news' : Led} (h : ∃ (t : Tok), r = .int (Int.gcd one other) t ∧ news' = news) (ho : 0 < other) (hM : other ≤ M) :
    ∃ (t : Tok) (g : Int), r = .int g t ∧ news' = news ∧ g = Int.gcd one other ∧ 0 < g ∧ other.fdiv g ≤ M ∧ g ≤ M := by
  obtain ⟨t, rfl, rfl⟩ := h
  have hg : 0 < (Int.gcd one other : Int) := by
    have : 0 < Int.gcd one other := Int.gcd_pos_iff.mpr (.inr (by omega))
    omega
  refine ⟨t, _, rfl, rfl, rfl, hg, Int.le_trans ?_ hM, Int.le_trans (Int.le_of_dvd ho (Int.gcd_dvd_right _ _)) hM⟩
  rw [Int.fdiv_eq_ediv_of_nonneg _ (Int.le_of_lt hg)]
  exact Int.ediv_le_self _ (Int.le_of_lt ho)
theorem noPy_most {x g : Int} (h0 : 0 < g) (h : g ≤ 10000000000000000000000000000000000000000000000000000000000000000000000000000000000000000000000000000000000000000000000000000000000000000000000000000000000000000000000000000000000000000000000000000000000000000000000000000000000000000000000000000000000000000000000000000000000000000000000000000000000000000000000000000000000000000000000000000000000000000000000000000000000000000000000000000000000000000) : Builtin.divisionGoesByPylong x g = false := by
  refine PyProof.noPylong_of_log2 ?_
  have hk : g.natAbs ≠ 0 := by omega
  have h1 : g < ((2 ^ 1400 : Nat) : Int) := Int.lt_of_le_of_lt h (by decide +kernel)
  have h2 : g.natAbs < 2 ^ 1400 := by generalize 2 ^ 1400 = q at h1 ⊢; omega
  have := (Nat.log2_lt hk).mpr h2
  omega
theorem mulOk_most {b : Int} (h0 : 0 ≤ b) (h : b ≤ 10000000000000000000000000000000000000000000000000000000000000000000000000000000000000000000000000000000000000000000000000000000000000000000000000000000000000000000000000000000000000000000000000000000000000000000000000000000000000000000000000000000000000000000000000000000000000000000000000000000000000000000000000000000000000000000000000000000000000000000000000000000000000000000000000000000000000000) : IntMulOk 10000000000000000000000000000000000000000000000000000000000000000000000000000000000000000000000000000000000000000000000000000000000000000000000000000000000000000000000000000000000000000000000000000000000000000000000000000000000000000000000000000000000000000000000000000000000000000000000000000000000000000000000000000000000000000000000000000000000000000000000000000000000000000000000000000000000000000 b :=
  IntMulOk.of_bits (by decide +kernel) (bits_le (n := 1400) (by decide) h0 (Int.lt_of_le_of_lt h (by decide +kernel)))
theorem news_drop2 {h₀ h : Heap} {L : Addr} {q r : Addr × Obj} {news : Led} (N : News h₀ L h (q :: r :: news)) : News h₀ L h (q :: news) := fun p hp => by
  rcases List.mem_cons.mp hp with rfl | hp
  · exact N _ (.head _)
  · exact N _ (.tail _ (.tail _ hp))
def NumC (prog : Program) (w : World) (K : Frag) (p : Program) (loose : List Str) (mean : ExcName → Option Value) (mg mb : Str → Option Value) (f : Addr) : Prop :=
  ∀ (top bottom : Int) (t1 t2 : Tok) (news : Led), 0 ≤ top → 0 < bottom → bottom ≤ 10000000000000000000000000000000000000000000000000000000000000000000000000000000000000000000000000000000000000000000000000000000000000000000000000000000000000000000000000000000000000000000000000000000000000000000000000000000000000000000000000000000000000000000000000000000000000000000000000000000000000000000000000000000000000000000000000000000000000000000000000000000000000000000000000000000000000000 → top < 10000000000000000000000000000000000000000000000000000000000000000000000000000000000000000000000000000000000000000000000000000000000000000000000000000000000000000000000000000000000000000000000000000000000000000000000000000000000000000000000000000000000000000000000000000000000000000000000000000000000000000000000000000000000000000000000000000000000000000000000000000000000000000000000000000000000000000 * bottom →
    CallsTo prog w K p loose mean mg mb f 2 16 [.int top t1, .int bottom t2] news
      fun r news' => ∃ (D : Addr) (ta tb : Tok), r = .ref D ∧ (∀ q ∈ news, q.1 < D) ∧ news' = (D, pairObj (top.fdiv (Int.gcd top bottom)) (bottom.fdiv (Int.gcd top bottom)) ta tb) :: news
local macro_rules | `(tactic| walk_at "call ref") => `(tactic| (k_here; (with_reducible show wpAny _ _ (call (Value.ref 22) _) _ _ _); k_dflt (refine' use ((by assumption : CdC _ _ _ _ _ _ _ _ 22) _ _ _ _ _ ?a1) ?k1 ?k2 ?k3 ?k4 ?k5 ?kK ?kd ?ku ?_; (case k1 => k_asm); (case k2 => k_asm); (case k3 => k_asm); (case k4 => k_asm); (case k5 => k_asm); (case kK => first | exact rfl | assumption); (case kd => ktr_room); (case ku => ktr_units); (case a1 => omega); intro r9 n9 h9 tk9 F9 N9 ho9; (obtain ⟨t9, g9, e9, e9', hg9, hg8, hg7, hg6⟩ := cd_out ho9 (by assumption) (by assumption)); clear ho9; subst e9; subst n9)))
local macro_rules | `(tactic| walk_at "call ref") => `(tactic| (k_here; (with_reducible show wpAny _ _ (call (Value.ref 29) _) _ _ _); exfalso; omega))
local macro_rules | `(tactic| walk_at "binaryOp Mult int int") => `(tactic| (k_here; (refine mul_int ?_ (mulOk_most (by omega) (by assumption)))))
local macro_rules | `(tactic| walk_at "xm_enterD") => `(tactic| (refine' code_def ?k1 ?k2 ?k3 ?k4 ?k5 ?kA ?kF ?kK ?k6 ?k7 ?k8 ?k9 ?kB ?_ ?c2 ?c3 ?c4 ?c5; (case kA => exact rfl); (case kF => exact rfl); (case kK => assumption); (case k1 => k_asm); (case k2 => k_asm); (case k3 => k_asm); (case k4 => k_asm); (case k5 => k_asm); (case k6 => k_is); (case k7 => k_is); (case k8 => ktr_room); (case k9 => exact binds_K (by k_in) rfl (by k_is) rfl rfl rfl); (case c5 => decide); (case kB => exact locs rfl); (case c2 => exact rfl); (case c3 => exact rfl); (case c4 => exact rfl); k_whole; intro g' L' h' FG' F' N' B' X' T'; (try dsimp only); (try k_lift B'); (try k_fold)))
local macro_rules | `(tactic| walk_at "binaryOp FloorDiv int int") => `(tactic| (k_here; refine floordiv_int (by omega) ?_ (Or.inl (noPy_most (by assumption) (by assumption)))))
set_option maxHeartbeats 8000000 in
theorem num_ok {prog : Program} {w : World} {p : Program} {loose : List Str} {mean : ExcName → Option Value} {mg mb : Str → Option Value} :
    NumC prog w (hd.heap_39 w.params) p loose mean mg mb 37 := by
  have hCd := @cd_ok prog w p loose mean mg mb
  intro top bottom t1 t2 news ht hb hbm htm
  intro dp un gd cn cs fa ccd cl outer A₀ base h₀ L m s Q E B F X N T hk hd hu hret
  refine wpAny_call ?_
  k_dflt (walk_at "xm_enterD")
  w_top off
  k_with_none
  k_steps
  · (rename Fr h₀ L _ m => kF)
    (rename News h₀ L _ _ => kN)
    (rename (_ ∧ AllLt _ news) => hl)
    (rename (_ = ((Int.gcd _ _ : Nat) : Int)) => hg)
    rw [hg] at kN
    exact hret _ _ _ _ kF (news_drop2 kN) ⟨_, _, _, rfl, ktn_ltOf hl.2, rfl⟩
end
section
def lead0 (l : List Nat) : List Nat := l.dropWhile (· == 48)
def moreN (l : List Nat) : Nat := if 53 ≤ (l[400]?).getD 0 then 1 else 0
def topN (wl pl : List Nat) : Nat := wN (lead0 wl ++ pl.take 400) + moreN pl
def botN (pl : List Nat) : Nat := 10 ^ (pl.take 400).length
def NodC (prog : Program) (w : World) (K : Frag) (p : Program) (loose : List Str) (mean : ExcName → Option Value) (mg mb : Str → Option Value) (f : Addr) : Prop :=
  ∀ (x y : Str) (t1 t2 : Tok) (news : Led), x.length ≤ 1000 → y.length ≤ 1000 → DigN (cs x) → DigN (cs y) → ((lead0 (cs x)).length ≤ 400 → (topN (cs x) (cs y) : Int) < 10000000000000000000000000000000000000000000000000000000000000000000000000000000000000000000000000000000000000000000000000000000000000000000000000000000000000000000000000000000000000000000000000000000000000000000000000000000000000000000000000000000000000000000000000000000000000000000000000000000000000000000000000000000000000000000000000000000000000000000000000000000000000000000000000000000000000000 * (botN (cs y) : Int)) →
    CallsTo prog w K p loose mean mg mb f 3 24 [.str x t1, .str y t2] news
      fun r news' => (400 < (lead0 (cs x)).length ∧ r = .ref 15 ∧ news' = news) ∨ ((lead0 (cs x)).length ≤ 400 ∧ ∃ (D : Addr) (ta tb : Tok), r = .ref D ∧ (∀ q ∈ news, q.1 < D) ∧ news' = (D, pairObj ((topN (cs x) (cs y) : Int).fdiv (Int.gcd (topN (cs x) (cs y)) (botN (cs y)))) ((botN (cs y) : Int).fdiv (Int.gcd (topN (cs x) (cs y)) (botN (cs y)))) ta tb) :: news)

def NdA (x : Str) (b : Int) : Prop := 0 ≤ b ∧ b ≤ x.length ∧ lead0 (cs x) = lead0 ((cs x).drop b.toNat)
def NdE (x : Str) (b : Int) : Prop := 0 ≤ b ∧ b ≤ x.length ∧ lead0 (cs x) = (cs x).drop b.toNat
theorem ndA0 {x : Str} : NdA x 0 := ⟨by omega, by omega, rfl⟩
theorem ndA_lo {x : Str} {b : Int} (h : NdA x b) : 0 ≤ b := h.1
theorem drop_at {l : List Nat} {i c : Nat} (h : l[i]? = some c) : l.drop i = c :: l.drop (i + 1) := by
  obtain ⟨hlt, e⟩ := List.getElem?_eq_some_iff.mp h
  rw [List.drop_eq_getElem_cons hlt, e]
theorem ndA_step {x : Str} {b : Int} {c : Nat} (h : NdA x b) (hb : b < x.length) (hc : (cs x)[b.toNat]? = some c) (hm : c = 48) : NdA x (b + 1) := by
  obtain ⟨h0, h1, h2⟩ := h
  refine ⟨by omega, by omega, ?_⟩
  rw [h2, drop_at hc, show (b + 1).toNat = b.toNat + 1 by omega, hm]
  rfl
theorem ndA_less {x : Str} {b : Int} (h : NdA x b) (hb : b < x.length) : x.length - (b + 1).toNat < x.length - b.toNat := by
  have := h.1
  omega
theorem ndE1 {x : Str} {b : Int} (h : NdA x b) (hb : ¬ b < x.length) : NdE x b := by
  obtain ⟨h0, h1, h2⟩ := h
  have l := cs_len x
  refine ⟨h0, h1, ?_⟩
  rw [h2, List.drop_of_length_le (by omega)]
  rfl
theorem ndE2 {x : Str} {b : Int} {c : Nat} (h : NdA x b) (hc : (cs x)[b.toNat]? = some c) (hm : ¬ c = 48) : NdE x b := by
  obtain ⟨h0, h1, h2⟩ := h
  refine ⟨h0, h1, ?_⟩
  rw [h2, drop_at hc]
  unfold lead0
  rw [List.dropWhile_cons_of_neg (by simpa using hm)]
theorem str_eq1 {prog : Program} {w : World} {A : Around} {E : Value → Shared → Prop} {s : Shared} {c d : Nat} {y : Str} {t u : Tok} {Q : Value → Shared → Prop} (hl : y.cps.toList = [d]) (h : Q (.bool (decide (c = d))) s) :
    wpAny (model prog w) A (compareOp .Eq (.str ⟨#[c]⟩ u) (.str y t)) Q E s := by
  refine P.eq_str ?_
  rw [hl]
  have e : (([c] : List Nat) == [d]) = decide (c = d) := by
    rw [Bool.eq_iff_iff]
    simp
  show Q (.bool (([c] : List Nat) == [d])) s
  rw [e]
  exact h
theorem five_is : (Str.ofString "5").cps.toList = [53] := by decide +kernel
theorem sliceIdx_clip {a b len : Nat} : Builtin.Str.strSliceIndices (some (a : Int)) (some (b : Int)) 1 len = Builtin.Str.strSliceIndices (some ((min a len : Nat) : Int)) (some ((min b len : Nat) : Int)) 1 len := by
  have h1 : ¬ ((a : Int) < 0) := by omega
  have h2 : ¬ ((b : Int) < 0) := by omega
  have h3 : ¬ (((min a len : Nat) : Int) < 0) := by omega
  have h4 : ¬ (((min b len : Nat) : Int) < 0) := by omega
  have e1 : max (0 : Int) (min (a : Int) (len : Int)) = max (0 : Int) (min ((min a len : Nat) : Int) (len : Int)) := by omega
  have e2 : max (0 : Int) (min (b : Int) (len : Int)) = max (0 : Int) (min ((min b len : Nat) : Int) (len : Int)) := by omega
  simp only [Builtin.Str.strSliceIndices, h1, h2, h3, h4, if_false, e1, e2, show ((1 : Int) > 0) = True from by simp, if_true]
theorem drop_take_clip {l : List Nat} {a b : Nat} (h : a ≤ b) : (l.drop (min a l.length)).take (min b l.length - min a l.length) = (l.drop a).take (b - a) := by
  by_cases ha : a ≤ l.length
  · rw [Nat.min_eq_left ha]
    by_cases hb : b ≤ l.length
    · rw [Nat.min_eq_left hb]
    · rw [Nat.min_eq_right (by omega), List.take_of_length_le (by rw [List.length_drop]; exact Nat.le_refl _), List.take_of_length_le (by rw [List.length_drop]; omega)]
  · rw [show min a l.length = l.length from Nat.min_eq_right (by omega), List.drop_of_length_le (Nat.le_refl _), List.drop_of_length_le (l := l) (by omega)]
    simp
theorem slice_any (x : Str) {a b : Nat} (hab : a ≤ b) : cs (Txt.slice x (some (a : Int)) (some (b : Int))) = ((cs x).drop a).take (b - a) := by
  have e : Txt.slice x (some (a : Int)) (some (b : Int)) = Txt.slice x (some ((min a x.length : Nat) : Int)) (some ((min b x.length : Nat) : Int)) := by
    unfold Txt.slice
    rw [sliceIdx_clip]
  have hl := cs_len x
  rw [e, slice_nat (by omega) (by omega) (by omega), Int.toNat_natCast, Int.toNat_natCast]
  show ((cs x).drop (min a x.length)).take (min b x.length - min a x.length) = _
  rw [← hl]
  exact drop_take_clip hab
theorem slice_hi (x : Str) (b : Nat) : cs (Txt.slice x none (some (b : Int))) = (cs x).take b := by
  have e : Txt.slice x none (some (b : Int)) = Txt.slice x (some ((0 : Nat) : Int)) (some (b : Int)) := by
    unfold Txt.slice
    rw [StrLaws.sliceIdx_none_lo]
    rfl
  rw [e, slice_any x (Nat.zero_le _)]
  simp
theorem slice_lo {x : Str} {i : Int} (h0 : 0 ≤ i) (h1 : i ≤ x.length) : cs (Txt.slice x (some i) none) = (cs x).drop i.toNat := by
  have hl := cs_len x
  have e : Txt.slice x (some i) none = ⟨((x.cps.toList.drop i.toNat).take ((x.cps.toList.length : Int) - i).toNat).toArray⟩ := StrLaws.sliceText_from ⟨h0, by have : (cs x).length = x.cps.toList.length := rfl; omega⟩
  rw [e]
  show (x.cps.toList.drop i.toNat).take _ = _
  rw [List.take_of_length_le]
  rw [List.length_drop]
  omega
theorem cs_app (x y : Str) : cs (x ++ y) = cs x ++ cs y := by
  show (x.cps ++ y.cps).toList = _
  simp
theorem len_two {x y : Str} {a b : Nat} (h1 : x.length ≤ a) (h2 : y.length ≤ b) : (x ++ y).length ≤ a + b := by
  rw [Str.length_append]
  omega
theorem nd_dig {x y : Str} {b : Int} (hE : NdE x b) (hx : DigN (cs x)) (hy : DigN (cs y)) : DigN (cs (Txt.slice x (some b) none ++ Txt.slice y none (some 400))) := by
  have e : Txt.slice y none (some 400) = Txt.slice y none (some ((400 : Nat) : Int)) := rfl
  rw [cs_app, slice_lo hE.1 hE.2.1, e, slice_hi]
  intro c hc
  rcases List.mem_append.mp hc with h | h
  · exact hx c (List.mem_of_mem_drop h)
  · exact hy c (List.mem_of_mem_take h)
theorem nd_txt {x y : Str} {b : Int} (hE : NdE x b) : cs (Txt.slice x (some b) none ++ Txt.slice y none (some 400)) = lead0 (cs x) ++ (cs y).take 400 := by
  have e : Txt.slice y none (some 400) = Txt.slice y none (some ((400 : Nat) : Int)) := rfl
  rw [cs_app, slice_lo hE.1 hE.2.1, e, slice_hi, hE.2.2]
theorem take1 (l : List Nat) (i : Nat) : (l.drop i).take 1 = match l[i]? with | some c => [c] | none => [] := by
  cases h : l[i]? with
  | none => rw [List.drop_of_length_le (List.getElem?_eq_none_iff.mp h)]; rfl
  | some c => rw [drop_at h]; rfl
theorem lt_one {c d : Nat} : ([c] : List Nat) < [d] ↔ c < d := by
  rw [List.cons_lt_cons_iff]
  simp
theorem more1 {y : Str} (h : ¬ (Txt.slice y (some 400) (some (400 + 1))).cps.toList < (Str.ofString "5").cps.toList) : moreN (cs y) = 1 := by
  have e : (Txt.slice y (some 400) (some (400 + 1))).cps.toList = ((cs y).drop 400).take 1 := slice_any y (a := 400) (b := 401) (by omega)
  rw [e, five_is, take1] at h
  unfold moreN
  cases q : (cs y)[400]? with
  | none => rw [q] at h; exact absurd (by decide) h
  | some c =>
    rw [q, lt_one] at h
    rw [if_pos]
    show 53 ≤ c
    omega
theorem more0 {y : Str} (h : (Txt.slice y (some 400) (some (400 + 1))).cps.toList < (Str.ofString "5").cps.toList) : moreN (cs y) = 0 := by
  have e : (Txt.slice y (some 400) (some (400 + 1))).cps.toList = ((cs y).drop 400).take 1 := slice_any y (a := 400) (b := 401) (by omega)
  rw [e, five_is, take1] at h
  unfold moreN
  cases q : (cs y)[400]? with
  | none => rfl
  | some c =>
    rw [q, lt_one] at h
    rw [if_neg]
    show ¬ 53 ≤ c
    omega
theorem nd_top1 {x y : Str} {b : Int} (hE : NdE x b) (h : moreN (cs y) = 1) : ((wN (cs (Txt.slice x (some b) none ++ Txt.slice y none (some 400))) : Nat) : Int) + 1 = (topN (cs x) (cs y) : Int) := by
  rw [nd_txt hE, topN, h]
  omega
theorem nd_top0 {x y : Str} {b : Int} (hE : NdE x b) (h : moreN (cs y) = 0) : ((wN (cs (Txt.slice x (some b) none ++ Txt.slice y none (some 400))) : Nat) : Int) + 0 = (topN (cs x) (cs y) : Int) := by
  rw [nd_txt hE, topN, h]
  omega
theorem nd_bot {y : Str} : (10 : Int) ^ ((Txt.slice y none (some 400)).length : Int).toNat = (botN (cs y) : Int) := by
  have e : Txt.slice y none (some 400) = Txt.slice y none (some ((400 : Nat) : Int)) := rfl
  rw [← cs_len, e, slice_hi, Int.toNat_natCast, botN]
  exact (Int.natCast_pow 10 _).symm
theorem nd_len {x : Str} {b : Int} (hE : NdE x b) : (lead0 (cs x)).length = (x.length : Int) - b := by
  have := hE.1
  have := hE.2.1
  rw [hE.2.2, List.length_drop, cs_len]
  omega
theorem nd_in {x : Str} {b : Int} {P : Prop} (hE : NdE x b) (h : ¬ 400 < (x.length : Int) - b) (hP : (lead0 (cs x)).length ≤ 400 → P) : P := hP (by have := nd_len hE; omega)
theorem nd_out {x : Str} {b : Int} (hE : NdE x b) (h : 400 < (x.length : Int) - b) : 400 < (lead0 (cs x)).length := by have := nd_len hE; omega
theorem bot_pos {l : List Nat} : 0 < (botN l : Int) := by
  have : 0 < botN l := Nat.pow_pos (by decide)
  omega
theorem bot_le {l : List Nat} : (botN l : Int) ≤ 10000000000000000000000000000000000000000000000000000000000000000000000000000000000000000000000000000000000000000000000000000000000000000000000000000000000000000000000000000000000000000000000000000000000000000000000000000000000000000000000000000000000000000000000000000000000000000000000000000000000000000000000000000000000000000000000000000000000000000000000000000000000000000000000000000000000000000 := by
  have h : botN l ≤ 10 ^ 400 := Nat.pow_le_pow_right (by decide) (by rw [List.length_take]; omega)
  have e : ((10 ^ 400 : Nat) : Int) = 10000000000000000000000000000000000000000000000000000000000000000000000000000000000000000000000000000000000000000000000000000000000000000000000000000000000000000000000000000000000000000000000000000000000000000000000000000000000000000000000000000000000000000000000000000000000000000000000000000000000000000000000000000000000000000000000000000000000000000000000000000000000000000000000000000000000000000 := by decide +kernel
  rw [← e]
  exact Int.ofNat_le.mpr h
theorem zero_is : (Str.ofString "0").cps.toList = [48] := by decide +kernel
local macro_rules | `(tactic| walk_at "subscriptTail") => `(tactic| (k_here; (with_reducible show wpAny _ _ (subscriptTail _ _ (Value.str _ _) (Value.int _ _)) _ _ _); k_dflt (refine' str_at ?k1 ?k2 ?k3 ?_ ?k7 ?k8; (case k1 => exact ndA_lo (by assumption)); (case k2 => assumption); (case k3 => omega); (case k7 => with_unfolding_all rfl); (case k8 => intro _; with_unfolding_all rfl); k_whole); intro c' hc'))
local macro_rules | `(tactic| walk_at "compareOp Eq str str") => `(tactic| (k_here; (with_reducible show wpAny _ _ (compareOp CmpOp.Eq (Value.str (Str.mk _) _) (Value.str _ _)) _ _ _); k_dflt (refine' str_eq1 zero_is ?_; k_whole)))
local macro_rules | `(tactic| walk_at "call ref") => `(tactic| (k_here; (with_reducible show wpAny _ _ (call (Value.ref 65) _) _ _ _); k_dflt ((first | (have hE9 := ndE1 (by assumption) (by assumption)) | (have hE9 := ndE2 (by assumption) (by assumption) (by assumption))); refine' use ((by assumption : WholeC _ _ _ _ _ _ _ _ 65) _ _ _ ?a1 ?a2) ?k1 ?k2 ?k3 ?k4 ?k5 ?kK ?kd ?ku ?_; (case k1 => k_asm); (case k2 => k_asm); (case k3 => k_asm); (case k4 => k_asm); (case k5 => k_asm); (case kK => first | exact rfl | assumption); (case kd => ktr_room); (case ku => ktr_units); (case a1 => exact Nat.le_trans (len_two (by assumption) (by assumption)) (by omega)); (case a2 => exact nd_dig (by assumption) (by assumption) (by assumption)); intro r9 n9 h9 tk9 F9 N9 ho9; (obtain ⟨t9, e9, e9'⟩ := ho9); subst e9; subst n9)))
local macro_rules | `(tactic| walk_at "call ref") => `(tactic| (k_here; (with_reducible show wpAny _ _ (call (Value.ref 37) _) _ _ _); k_dflt ((first | rw [nd_top1 (by assumption) (more1 (by assumption)), nd_bot] | rw [nd_top0 (by assumption) (more0 (by assumption)), nd_bot]); refine' use ((by assumption : NumC _ _ _ _ _ _ _ _ 37) _ _ _ _ _ ?a1 ?a2 ?a3 ?a4) ?k1 ?k2 ?k3 ?k4 ?k5 ?kK ?kd ?ku ?_; (case k1 => k_asm); (case k2 => k_asm); (case k3 => k_asm); (case k4 => k_asm); (case k5 => k_asm); (case kK => first | exact rfl | assumption); (case kd => ktr_room); (case ku => ktr_units); (case a1 => exact Int.natCast_nonneg _); (case a2 => exact bot_pos); (case a3 => exact bot_le); (case a4 => exact nd_in (by assumption) (by first | assumption | omega) (by assumption)); intro r9 n9 h9 tk9 F9 N9 ho9; (obtain ⟨D9, ta9, tb9, e9, l9, e9'⟩ := ho9); subst e9; subst n9)))
set_option maxHeartbeats 8000000 in
theorem nod_ok {prog : Program} {w : World} {p : Program} {loose : List Str} {mean : ExcName → Option Value} {mg mb : Str → Option Value} :
    NodC prog w (hd.heap_39 w.params) p loose mean mg mb 72 := by
  have hNum := @num_ok prog w p loose mean mg mb
  have hWhole := @whole_ok prog w p loose mean mg mb
  intro x y t1 t2 news hx hy hdx hdy hlt
  intro dp un gd cn cs fa ccd cl outer A₀ base h₀ L m s Q E B F X N T hk hd hu hret
  refine wpAny_call ?_
  k_dflt ktr_enter
  w_top off
  k_with_none
  k_with "state" => first | exact ndA0 | exact ndA_step (by assumption) (by assumption) (by assumption) (by assumption)
  k_with "measure" => exact ndA_less (by assumption) (by assumption)
  k_with "exec While BoolOp cons nil" => k_while_given ["whole"] (fun x _ b => NdA x b) (fun x _ b => x.length - b.toNat) "begin"
  k_steps
  all_goals (
    (rename Fr h₀ L _ m => kF)
    (rename News h₀ L _ _ => kN)
    (first
      | exact hret _ _ _ _ kF kN (Or.inr ⟨nd_in (by assumption) (by first | assumption | omega) (fun h => h), _, _, _, rfl, by assumption, rfl⟩)
      | ((first | (have hE9 := ndE1 (by assumption) (by assumption)) | (have hE9 := ndE2 (by assumption) (by assumption) (by assumption)))
         exact hret _ _ _ _ kF kN (Or.inl ⟨nd_out hE9 (by assumption), rfl, rfl⟩))))
end
section
/-- the source in a ledger: a list of two ints, not below nought -/
def SrcOut (src : Addr) (rest news' : Led) : Prop := ∃ (a' b' : Int) (ta' tb' : Tok) (n' : Nat), 0 ≤ a' ∧ 0 ≤ b' ∧ b' < 2147483647 ∧ news' = (src, srcObj a' b' ta' tb' n') :: rest
def RowC (prog : Program) (w : World) (K : Frag) (p : Program) (loose : List Str) (mean : ExcName → Option Value) (mg mb : Str → Option Value) (f : Addr) : Prop :=
  ∀ (src : Addr) (a b : Int) (ta tb : Tok) (n : Nat) (x : Str) (most : Int) (tx tm : Tok) (rest : Led), 0 ≤ a → 0 ≤ b → b < 2147483647 → 0 < x.length → x.length ≤ 1000 → 0 ≤ most → most ≤ 100 → OffAll src rest →
    CallsTo prog w K p loose mean mg mb f 3 24 [.ref src, .str x tx, .int most tm] ((src, srcObj a b ta tb n) :: rest)
      fun r news' => ∃ (y : Str) (ty : Tok), r = .str y ty ∧ y.length ≤ most ∧ (∀ c ∈ cs y, c ∈ cs x) ∧ SrcOut src rest news'

local macro_rules | `(tactic| k_all) => `(tactic| first | exact OffAll.out (by with_reducible assumption) | exact offLt (by with_reducible assumption) | exact offLt (andR (by with_reducible assumption)) | exact offLt (andR (andR (by with_reducible assumption))))
local macro_rules | `(tactic| walk_at "call ref") => `(tactic| (k_here; (with_reducible show wpAny _ _ (call (Value.ref 86) _) _ _ _); k_dflt (refine' use ((by assumption : TakeC _ _ _ _ _ _ _ _ 86) _ _ _ _ _ _ _ _ _ ?a1 ?a2 ?a3 ?a4 ?a5 ?a6) ?k1 ?k2 ?k3 (Pull.news ?xmp ?k4) ?k5 ?kK ?kd ?ku ?_; (case k4 => k_asm); (case xmp => walk_at "xm_pull"); (case k1 => k_asm); (case k2 => k_asm); (case k3 => k_asm); (case k5 => k_asm); (case kK => first | exact rfl | assumption); (case kd => ktr_room); (case ku => ktr_units); (case a1 => assumption); (case a2 => assumption); (case a3 => assumption); (case a4 => omega); (case a5 => omega); (case a6 => (show ∀ p ∈ _, Prod.fst p ≠ _); k_all); intro r9 n9 h9 tk9 F9 N9 ho9; (obtain ⟨v9, t9, a9, b9, ta9, tb9, m9, e9, v1, v2, a1, a2, a3, e9'⟩ := ho9); subst e9; subst n9)))
local macro_rules | `(tactic| walk_at "eval ListComp") => `(tactic| (k_here; k_dflt (refine LCg.ListComp_U (F₀ := by k_asm) (by with_unfolding_all rfl) (by decide) (by rfl) (by decide) (by rfl) ?_)))
def Hold (P : Prop) : Prop := P
theorem unhold {P : Prop} (h : Hold P) : P := h
local macro_rules | `(tactic| walk_at "CompSrc") => `(tactic| (k_here; (with_reducible show LCg.CompSrc _ _ _ _ _ _ _ _ _ _ _ _ _ _); refine unhold ?_))
section
variable {prog : Program} {w : World} {A : Around} {s : Shared} {h₀ : Heap} {L : Addr} {m : Str → Option Value} {env : Env}
open LCg in
theorem compEnd_mono {I C D : Addr} {oI oC oD : Obj} {S : Led → Prop} {rest rest' : Value → Led → Prop} {y : Value} {s₂ : Shared} (h : CompEnd h₀ L m s I oI C oC D oD S rest y s₂) (hr : ∀ n, rest y n → rest' y n) : CompEnd h₀ L m s I oI C oC D oD S rest' y s₂ := by
  obtain ⟨h', tk, n, e, F, N, o, hS, r⟩ := h
  exact ⟨h', tk, n, e, F, N, o, hS, hr n r⟩
open LCg in
theorem rest_inv {elt : Expr} {x : Str} {scope : Scope} {cl : List (Str × Addr)} {S : Led → Prop} {P : Nat → Value → Prop} {Fin : List Value → Led → Prop} {n : Nat} (Inv : Nat → List Value → Led → Prop)
    (step : ∀ i ys news v I oI C oC D m₂ h tk (E' : Value → Shared → Prop), i < n → Inv i ys news → P i v → NsObj oC m₂ → m₂ x = some v → Fr h₀ L h m → News h₀ L h ((I, oI) :: (C, oC) :: (D, lst ys) :: news) → Off3 I C D news → ((@Ne Nat I C) ∧ (@Ne Nat I D) ∧ (@Ne Nat C D)) →
      wpAny (model prog w) A (eval elt (compEnvC scope cl C env)) (CompEnd h₀ L m { s with heap := h, toks := tk } I oI C oC D (lst ys) S (fun y news' => Inv (i + 1) (ys ++ [y]) news')) E' { s with heap := h, toks := tk })
    (fin : ∀ ys news, Inv n ys news → Fin ys news) : ∀ k i ys news, i + k = n → Inv i ys news → CompRest prog w A h₀ L m env elt x scope cl s S P Fin k i ys news
  | 0, i, ys, news, e, hi => CompRest.zero (fin ys news (by rw [← e]; exact hi))
  | k + 1, i, ys, news, e, hi => CompRest.succ fun v I oI C oC D m₂ h tk E' hP hC hx F N o hne =>
    wpAny_mono (step i ys news v I oI C oC D m₂ h tk E' (by omega) hi hP hC hx F N o hne) (fun y s₂ hc => compEnd_mono hc fun n' hn' => rest_inv Inv step fin k (i + 1) (ys ++ [y]) n' (by omega) hn') fun _ _ x => x
end
local macro_rules | `(tactic| walk_at "call ref") => `(tactic| (k_here; (with_reducible show wpAny _ _ (call (Value.ref 93) _) _ _ _); refine wpAny_call ?_; k_dflt (walk_at "xm_enterK")))
def RowInv (src : Addr) (tail : Led) (x : Str) (i : Nat) (ys : List Value) (news : Led) : Prop :=
  ∃ (a b : Int) (ta tb : Tok) (n : Nat) (zs : List Str), news = (src, srcObj a b ta tb n) :: tail ∧ 0 ≤ a ∧ 0 ≤ b ∧ b < 2147483647 ∧ StrsAre ys zs ∧ zs.length = i ∧ ∀ z ∈ zs, ∃ c, z = ⟨#[c]⟩ ∧ c ∈ cs x
local macro_rules | `(tactic| walk_at "subscriptTail") => `(tactic| (k_here; (with_reducible show wpAny _ _ (subscriptTail _ _ (Value.str _ _) (Value.int _ _)) _ _ _); k_dflt (refine' str_at ?k1 ?k2 ?k3 ?_ ?k7 ?k8; (case k1 => assumption); (case k2 => assumption); (case k3 => omega); (case k7 => with_unfolding_all rfl); (case k8 => intro _; with_unfolding_all rfl); k_whole); intro c' hc'))
theorem rowInv_next {src : Addr} {tail : Led} {x : Str} {i k : Nat} {ys : List Value} {zs : List Str} {a b : Int} {ta tb : Tok} {n : Nat} {c : Nat} {t : Tok} (hc : (cs x)[k]? = some c) (ha : 0 ≤ a) (hb : 0 ≤ b) (hb2 : b < 2147483647)
    (hys : StrsAre ys zs) (hzl : zs.length = i) (hzs : ∀ z ∈ zs, ∃ c, z = ⟨#[c]⟩ ∧ c ∈ cs x) : RowInv src tail x (i + 1) (ys ++ [.str ⟨#[c]⟩ t]) ((src, srcObj a b ta tb n) :: tail) :=
  ⟨_, _, _, _, _, zs ++ [⟨#[c]⟩], rfl, ha, hb, hb2, hys.append' (.cons _ _ .nil), by rw [List.length_append, List.length_singleton, hzl], fun z hz => by
    rcases List.mem_append.mp hz with h | h
    · exact hzs z h
    · exact ⟨c, List.mem_singleton.mp h, List.mem_of_getElem? hc⟩⟩
theorem comp_sub {a b c d : Addr × Obj} {t : Led} : ∀ p ∈ b :: c :: d :: a :: t, p ∈ a :: b :: c :: d :: t := fun p hp => by
  simp only [List.mem_cons] at hp ⊢
  rcases hp with h | h | h | h | h
  · exact .inr (.inl h)
  · exact .inr (.inr (.inl h))
  · exact .inr (.inr (.inr (.inl h)))
  · exact .inl h
  · exact .inr (.inr (.inr (.inr h)))
theorem cs_join {sep : Str} (hs : sep.cps = #[]) : ∀ zs : List Str, cs (Str.join sep zs) = (zs.map cs).flatten
  | [] => rfl
  | [z] => by
    show cs z = _
    simp
  | z :: y :: r => by
    have ih := cs_join hs (y :: r)
    have e : Str.join sep (z :: y :: r) = z ++ sep ++ Str.join sep (y :: r) := rfl
    rw [e, List.map_cons, List.flatten_cons, ← ih]
    show ((z.cps ++ sep.cps) ++ (Str.join sep (y :: r)).cps).toList = _
    rw [hs]
    simp
theorem joined {x : Str} {zs : List Str} (hzs : ∀ z ∈ zs, ∃ c, z = ⟨#[c]⟩ ∧ c ∈ cs x) : (Txt.join (Str.ofString "") zs).length = zs.length ∧ ∀ c ∈ cs (Txt.join (Str.ofString "") zs), c ∈ cs x := by
  have e : Txt.join (Str.ofString "") zs = Str.join (Str.ofString "") zs := StrLaws.glued_eq_join _ _
  have hs : (Str.ofString "").cps = #[] := by decide +kernel
  rw [← cs_len, e, cs_join hs]
  clear e hs
  induction zs with
  | nil => exact ⟨rfl, fun _ h => nomatch h⟩
  | cons z r ih =>
    obtain ⟨i1, i2⟩ := ih fun y hy => hzs y (.tail _ hy)
    obtain ⟨c, rfl, hc⟩ := hzs z (.head _)
    rw [List.map_cons, List.flatten_cons, List.length_append, i1, List.length_cons]
    refine ⟨by show 1 + r.length = r.length + 1; omega, fun d hd => ?_⟩
    rcases List.mem_append.mp hd with h | h
    · rw [List.mem_singleton.mp h]; exact hc
    · exact i2 d h
theorem sum_ones {x : Str} {zs : List Str} (hzs : ∀ z ∈ zs, ∃ c, z = ⟨#[c]⟩ ∧ c ∈ cs x) : (zs.map (·.length)).sum = zs.length := by
  induction zs with
  | nil => rfl
  | cons z r ih =>
    obtain ⟨c, rfl, hc⟩ := hzs z (.head _)
    rw [List.map_cons, List.sum_cons, ih fun y hy => hzs y (.tail _ hy)]
    show 1 + r.length = r.length + 1
    omega
theorem news_row {h₀ h : Heap} {L : Addr} {q s c d : Addr × Obj} {rest : Led} (N : News h₀ L h (q :: s :: c :: d :: rest)) : News h₀ L h (s :: rest) := fun p hp => by
  rcases List.mem_cons.mp hp with rfl | hp
  · exact N _ (.tail _ (.head _))
  · exact N _ (.tail _ (.tail _ (.tail _ (.tail _ hp))))
theorem join_row {prog : Program} {w : World} {A : Around} {E : Value → Shared → Prop} {s : Shared} {h₀ : Heap} {L D : Addr} {news : Led} {ys : List Value} {zs : List Str} {x : Str} {t : Tok} {n : Nat} {Q : Value → Shared → Prop}
    (N : News h₀ L s.heap news) (hm : (D, ({ cls := .type "list", data := .seq ys.toArray n } : Obj)) ∈ news) (hys : StrsAre ys zs) (hzl : zs.length ≤ 1000) (hzs : ∀ z ∈ zs, ∃ c, z = ⟨#[c]⟩ ∧ c ∈ cs x)
    (h : ∀ y t' k, y.length = zs.length → (∀ c ∈ cs y, c ∈ cs x) → Q (.str y t') { s with toks := k }) :
    wpAny (model prog w) A (call (.builtin "str.join") [.str (Str.ofString "") t, .ref D]) Q E s :=
  join_listW (PySem.IsL.isList (n := n) (N _ hm).1) (by simpa using hys) (by decide +kernel) (by rw [sum_ones hzs]; omega) fun t' k => h _ t' k (joined hzs).1 (joined hzs).2
local macro_rules | `(tactic| walk_at "call builtin:str.join") => `(tactic| (k_here; (with_reducible show wpAny _ _ (call (Value.builtin "str.join") [Value.str _ _, Value.ref _]) _ _ _); k_dflt (refine' join_row ?k1 ?k2 ?k3 ?k4 ?k5 ?_; (case k1 => k_asm); (case k2 => k_mem); (case k3 => assumption); (case k4 => omega); (case k5 => assumption)); intro y' t' k' hy' hz'))
set_option maxHeartbeats 600000 in
theorem row_ok {prog : Program} {w : World} {p : Program} {loose : List Str} {mean : ExcName → Option Value} {mg mb : Str → Option Value} :
    RowC prog w (hd.heap_39 w.params) p loose mean mg mb 98 := by
  have hTake := @take_ok prog w p loose mean mg mb
  intro src a b ta tb n x most tx tm rest ha hb hb2 hx0 hx1 hm0 hm1 hoff
  intro dp un gd cn cs fa ccd cl outer A₀ base h₀ L m s Q E B F X N T hk hd hu hret
  refine wpAny_call ?_
  k_dflt (walk_at "xm_enterC")
  w_top off
  k_with_none
  k_steps
  unfold Hold
  refine' LCg.CompSrc.range (by rfl) (by k_asm) (by k_asm) (by assumption) (small_one (by omega) (by omega) (by omega) (by omega)) (rangeSize_nat _ _) (by rw [PySem.sizeLine_eq]; omega) ?_
  intro g'
  refine' rest_inv (RowInv src _ x) ?step ?fin _ 0 [] _ (Nat.zero_add _) ?start
  case start =>
    refine' ⟨_, _, _, _, _, [], ?s1, ?s2, ?s3, ?s4, .nil, rfl, fun _ h => nomatch h⟩
    case s1 => exact rfl
    case s2 => assumption
    case s3 => assumption
    case s4 => assumption
  case step =>
    intro i ys news v I oI C oC D m₂ h tk E' hi hInv hP hC hx F' N' off ne
    obtain ⟨a, b, ta, tb, n, zs, e, ha, hb, hb2, hys, hzl, hzs⟩ := hInv
    subst e
    have off9 := off
    simp only [LCg.Off3] at off
    k_steps
    (rename Fr _ _ _ _ => kF)
    (rename News _ _ _ _ => kN)
    exact LCg.CompEnd.intro kF kN _ comp_sub off9 trivial (rowInv_next (by assumption) (by assumption) (by assumption) (by assumption) hys hzl hzs)
  case fin =>
    intro ys news hInv
    obtain ⟨a, b, ta, tb, n, zs, e, ha, hb, hb2, hys, hzl, hzs⟩ := hInv
    subst e
    k_steps
    (rename Fr h₀ L _ m => kF)
    (rename News h₀ L _ _ => kN)
    exact hret _ _ _ _ kF (news_row kN) ⟨_, _, rfl, by omega, by assumption, _, _, _, _, _, ha, hb, hb2, rfl⟩
end
section
abbrev lstObj (vs : List Value) (n : Nat) : Obj := { cls := .type "list", data := .seq vs.toArray n }
def OneC (prog : Program) (w : World) (K : Frag) (p : Program) (loose : List Str) (mean : ExcName → Option Value) (mg mb : Str → Option Value) (f : Addr) : Prop :=
  ∀ (src : Addr) (a b : Int) (ta tb : Tok) (n : Nat) (D : Addr) (vs : List Value) (k : Nat) (rest : Led), 0 ≤ a → 0 ≤ b → b < 2147483647 → 0 < vs.length → vs.length ≤ 1000 → OffAll src ((D, lstObj vs k) :: rest) →
    CallsTo prog w K p loose mean mg mb f 2 16 [.ref src, .ref D] ((src, srcObj a b ta tb n) :: (D, lstObj vs k) :: rest)
      fun r news' => r ∈ vs ∧ SrcOut src ((D, lstObj vs k) :: rest) news'
theorem lst_at {prog : Program} {w : World} {A : Around} {E : Value → Shared → Prop} {s : Shared} {h₀ : Heap} {L D : Addr} {news : Led} {vs : List Value} {n : Nat} {i : Int} {u : Tok} {value slice : PySem.Expr} {Q : Value → Shared → Prop}
    (N : News h₀ L s.heap news) (hm : (D, lstObj vs n) ∈ news) (h0 : 0 ≤ i) (h1 : i < vs.length) (h2 : i < 2 ^ 63) (h : ∀ v, v ∈ vs → Q v s)
    (hs : subscripted slice false (.ref D) (.int i u) = operate [.ref D, .int i u] (getItem (.ref D) (.int i u)) := by with_unfolding_all rfl) :
    wpAny (model prog w) A (subscriptTail value slice (.ref D) (.int i u)) Q E s := by
  have hl : s.heap.IsList D vs.toArray := PySem.IsL.isList (n := n) (N _ hm).1
  have hlt : i.toNat < vs.length := by omega
  have hx : vs.toArray[i.toNat]? = some vs[i.toNat] := by simp [hlt]
  exact tail_any hl.typeIs slot_list_getitem.lookup (wpAny_getItem_list hl h0 h2 hx (h _ (List.getElem_mem hlt))) hs
theorem lst_len {prog : Program} {w : World} {A : Around} {E : Value → Shared → Prop} {s : Shared} {h₀ : Heap} {L D : Addr} {news : Led} {vs : List Value} {n : Nat} {Q : Value → Shared → Prop}
    (N : News h₀ L s.heap news) (hm : (D, lstObj vs n) ∈ news) (h1 : vs.length ≤ 1000) (h : Q (.int vs.length (s.toks + 1)) { s with toks := s.toks + 1 + 1 }) : wpAny (model prog w) A (call (.builtin "len") [.ref D]) Q E s := by
  have hl : s.heap.IsList D vs.toArray := PySem.IsL.isList (n := n) (N _ hm).1
  refine len_list hl (by rw [List.size_toArray]; omega) ?_
  rw [List.size_toArray]
  exact h
local macro_rules | `(tactic| k_all) => `(tactic| first | exact OffAll.out (by with_reducible assumption) | exact offLt (by with_reducible assumption) | exact offLt (andR (by with_reducible assumption)) | exact offLt (andR (andR (by with_reducible assumption))))
local macro_rules | `(tactic| walk_at "call ref") => `(tactic| (k_here; (with_reducible show wpAny _ _ (call (Value.ref 86) _) _ _ _); k_dflt (refine' use ((by assumption : TakeC _ _ _ _ _ _ _ _ 86) _ _ _ _ _ _ _ _ _ ?a1 ?a2 ?a3 ?a4 ?a5 ?a6) ?k1 ?k2 ?k3 (Pull.news ?xmp ?k4) ?k5 ?kK ?kd ?ku ?_; (case k4 => k_asm); (case xmp => walk_at "xm_pull"); (case k1 => k_asm); (case k2 => k_asm); (case k3 => k_asm); (case k5 => k_asm); (case kK => first | exact rfl | assumption); (case kd => ktr_room); (case ku => ktr_units); (case a1 => assumption); (case a2 => assumption); (case a3 => assumption); (case a4 => omega); (case a5 => omega); (case a6 => (show ∀ p ∈ _, Prod.fst p ≠ _); k_all); intro r9 n9 h9 tk9 F9 N9 ho9; (obtain ⟨v9, t9, a9, b9, ta9, tb9, m9, e9, v1, v2, a1, a2, a3, e9'⟩ := ho9); subst e9; subst n9)))
local macro_rules | `(tactic| walk_at "subscriptTail") => `(tactic| (k_here; (with_reducible show wpAny _ _ (subscriptTail _ _ (Value.ref _) (Value.int _ _)) _ _ _); k_dflt (refine' lst_at ?k1 ?k2 ?k3 ?k4 ?k5 ?_ ?k7; (case k1 => k_asm); (case k2 => k_mem); (case k3 => assumption); (case k4 => assumption); (case k5 => omega); (case k7 => with_unfolding_all rfl); k_whole); intro v' hv'))
local macro_rules | `(tactic| walk_at "call builtin:len") => `(tactic| (k_here; (with_reducible show wpAny _ _ (call (Value.builtin "len") [Value.ref _]) _ _ _); k_dflt (refine' lst_len ?k1 ?k2 ?k3 ?_; (case k1 => k_asm); (case k2 => k_mem); (case k3 => assumption); k_whole)))
set_option maxHeartbeats 600000 in
theorem one_ok {prog : Program} {w : World} {p : Program} {loose : List Str} {mean : ExcName → Option Value} {mg mb : Str → Option Value} :
    OneC prog w (hd.heap_39 w.params) p loose mean mg mb 93 := by
  have hTake := @take_ok prog w p loose mean mg mb
  intro src a b ta tb n D vs k rest ha hb hb2 hv0 hv1 hoff
  intro dp un gd cn cs fa ccd cl outer A₀ base h₀ L m s Q E B F X N T hk hd hu hret
  refine wpAny_call ?_
  k_dflt ktr_enter
  w_top off
  k_with_none
  k_steps
  · (rename Fr h₀ L _ m => kF)
    (rename News h₀ L _ _ => kN)
    exact hret _ _ _ _ kF kN ⟨by assumption, _, _, _, _, _, by assumption, by assumption, by assumption, rfl⟩
end
section
local macro_rules | `(tactic| walk_at "xm_pad0") => `(tactic| skip)
theorem mem6 {a b c d e f r : Value} {P : Value → Prop} (h : r ∈ [a, b, c, d, e, f]) (pa : P a) (pb : P b) (pc : P c) (pd : P d) (pe : P e) (pf : P f) : P r := by
  simp only [List.mem_cons, List.not_mem_nil, or_false] at h
  rcases h with rfl | rfl | rfl | rfl | rfl | rfl <;> assumption
theorem mem5 {a b c d e r : Value} {P : Value → Prop} (h : r ∈ [a, b, c, d, e]) (pa : P a) (pb : P b) (pc : P c) (pd : P d) (pe : P e) : P r := by
  simp only [List.mem_cons, List.not_mem_nil, or_false] at h
  rcases h with rfl | rfl | rfl | rfl | rfl <;> assumption
theorem all6 {a b c d e f : Value} {P : Value → Prop} (pa : P a) (pb : P b) (pc : P c) (pd : P d) (pe : P e) (pf : P f) : ∀ r, r ∈ [a, b, c, d, e, f] → P r := fun _ h => mem6 h pa pb pc pd pe pf
theorem all5 {a b c d e : Value} {P : Value → Prop} (pa : P a) (pb : P b) (pc : P c) (pd : P d) (pe : P e) : ∀ r, r ∈ [a, b, c, d, e] → P r := fun _ h => mem5 h pa pb pc pd pe
theorem mem3 {a b c : Int} {t u v : Tok} {r : Value} (h : r ∈ [Value.int a t, .int b u, .int c v]) : ∃ (x : Int) (y : Tok), r = .int x y ∧ (x = a ∨ x = b ∨ x = c) := by
  simp only [List.mem_cons, List.not_mem_nil, or_false] at h
  rcases h with rfl | rfl | rfl
  · exact ⟨_, _, rfl, .inl rfl⟩
  · exact ⟨_, _, rfl, .inr (.inl rfl)⟩
  · exact ⟨_, _, rfl, .inr (.inr rfl)⟩
theorem mem2 {a b : Int} {t u : Tok} {r : Value} (h : r ∈ [Value.int a t, .int b u]) : ∃ (x : Int) (y : Tok), r = .int x y ∧ (x = a ∨ x = b) := by
  simp only [List.mem_cons, List.not_mem_nil, or_false] at h
  rcases h with rfl | rfl
  · exact ⟨_, _, rfl, .inl rfl⟩
  · exact ⟨_, _, rfl, .inr rfl⟩
theorem pull2 {d e : Addr} {o q : Obj} {l r r' : Led} {h₀ h : Heap} {L : Addr} (N : News h₀ L h l) (P : Pull d o l r) (P' : Pull e q r r') : News h₀ L h ((d, o) :: (e, q) :: r') := fun p hp => by
  have N' := P.news N
  rcases List.mem_cons.mp hp with rfl | hp
  · exact N' _ (.head _)
  · exact N' _ (.tail _ (P'.mem _ hp))
theorem pos3 {x v v' : Int} (h : x = v ∨ x = v' ∨ x = 2 ^ Int.toNat 60 - 1) (hv : 0 ≤ v) (hv' : 0 ≤ v') : 0 ≤ x := by
  rcases h with rfl | rfl | rfl
  · exact hv
  · exact hv'
  · decide
theorem gcd_many {s o t m : Int} (hs : s = 1 ∨ s = -1) (hm : 0 ≤ m) (hg : Int.gcd o t = 1) : (Int.gcd (s * o * m) (t * m) : Int) = m := by
  have e : Int.gcd (s * o) t = 1 := by
    rcases hs with rfl | rfl
    · rw [Int.one_mul]; exact hg
    · rw [Int.neg_mul, Int.one_mul, Int.neg_gcd]; exact hg
  rw [Int.gcd_mul_right, e, Nat.one_mul]
  omega
def DivC (prog : Program) (w : World) (K : Frag) (p : Program) (loose : List Str) (mean : ExcName → Option Value) (mg mb : Str → Option Value) (f : Addr) : Prop :=
  ∀ (src : Addr) (a b : Int) (ta tb : Tok) (n : Nat) (rest : Led), 0 ≤ a → 0 ≤ b → b < 2147483647 → OffAll src rest →
    CallsTo prog w K p loose mean mg mb f 4 32 [.ref src] ((src, srcObj a b ta tb n) :: rest)
      fun r news' => r = .bool true ∧ SrcOut src rest news'
local macro_rules | `(tactic| k_all) => `(tactic| first | exact OffAll.out (by with_reducible assumption) | exact offLt (by with_reducible assumption) | exact offLt (andR (by with_reducible assumption)) | exact offLt (andR (andR (by with_reducible assumption))))
local macro_rules | `(tactic| walk_at "call ref") => `(tactic| (k_here; (with_reducible show wpAny _ _ (call (Value.ref 86) _) _ _ _); k_dflt (refine' use ((by assumption : TakeC _ _ _ _ _ _ _ _ 86) _ _ _ _ _ _ _ _ _ ?a1 ?a2 ?a3 ?a4 ?a5 ?a6) ?k1 ?k2 ?k3 (Pull.news ?xmp ?k4) ?k5 ?kK ?kd ?ku ?_; (case k4 => k_asm); (case xmp => walk_at "xm_pull"); (case k1 => k_asm); (case k2 => k_asm); (case k3 => k_asm); (case k5 => k_asm); (case kK => first | exact rfl | assumption); (case kd => ktr_room); (case ku => ktr_units); (case a1 => assumption); (case a2 => assumption); (case a3 => assumption); (case a4 => first | omega | decide); (case a5 => first | omega | decide); (case a6 => (show ∀ p ∈ _, Prod.fst p ≠ _); k_all); intro r9 n9 h9 tk9 F9 N9 ho9; (obtain ⟨v9, t9, a9, b9, ta9, tb9, m9, e9, v1, v2, a1, a2, a3, e9'⟩ := ho9); subst e9; subst n9)))
local macro_rules | `(tactic| walk_at "call ref") => `(tactic| (k_here; (with_reducible show wpAny _ _ (call (Value.ref 93) _) _ _ _); k_dflt (refine' use ((by assumption : OneC _ _ _ _ _ _ _ _ 93) _ _ _ _ _ _ _ _ _ _ ?a1 ?a2 ?a3 ?a4 ?a5 ?a6) ?k1 ?k2 ?k3 (pull2 ?k4 ?xmp ?xmq) ?k5 ?kK ?kd ?ku ?_; (case k4 => k_asm); (case xmp => walk_at "xm_pull"); (case xmq => walk_at "xm_pull"); (case k1 => k_asm); (case k2 => k_asm); (case k3 => k_asm); (case k5 => k_asm); (case kK => first | exact rfl | assumption); (case kd => ktr_room); (case ku => ktr_units); (case a1 => assumption); (case a2 => assumption); (case a3 => assumption); (case a4 => exact Nat.succ_pos _); (case a5 => exact Nat.le_of_ble_eq_true rfl); (case a6 => (show ∀ p ∈ _, Prod.fst p ≠ _); k_all); intro r9 n9 h9 tk9 F9 N9 ho9; (obtain ⟨hr9, a9, b9, ta9, tb9, m9, a1, a2, a3, e9'⟩ := ho9); subst n9; (first | ((obtain ⟨x9, t9, e9, hx9⟩ := mem3 hr9); clear hr9; subst e9) | ((obtain ⟨x9, t9, e9, hx9⟩ := mem2 hr9); clear hr9; subst e9) | (revert hr9; revert r9; first | refine' all6 ?_ ?_ ?_ ?_ ?_ ?_ | refine' all5 ?_ ?_ ?_ ?_ ?_)))))
local macro_rules | `(tactic| walk_at "call ref") => `(tactic| (k_here; (with_reducible show wpAny _ _ (call (Value.ref 22) _) _ _ _); k_dflt (refine' use ((by assumption : CdC _ _ _ _ _ _ _ _ 22) _ _ _ _ _ ?a1) ?k1 ?k2 ?k3 ?k4 ?k5 ?kK ?kd ?ku ?_; (case k1 => k_asm); (case k2 => k_asm); (case k3 => k_asm); (case k4 => k_asm); (case k5 => k_asm); (case kK => first | exact rfl | assumption); (case kd => ktr_room); (case ku => ktr_units); (case a1 => first | omega | ((have q9 := pos3 (by assumption) (by assumption) (by assumption)); omega)); intro r9 n9 h9 tk9 F9 N9 ho9; (obtain ⟨t9, e9, e9'⟩ := ho9); subst e9; subst n9)))
set_option maxHeartbeats 600000 in
theorem div_ok {prog : Program} {w : World} {p : Program} {loose : List Str} {mean : ExcName → Option Value} {mg mb : Str → Option Value} :
    DivC prog w (hd.heap_39 w.params) p loose mean mg mb 105 := by
  have hTake := @take_ok prog w p loose mean mg mb
  have hOne := @one_ok prog w p loose mean mg mb
  have hCd := @cd_ok prog w p loose mean mg mb
  intro src a b ta tb n rest ha hb hb2 hoff
  intro dp un gd cn cs fa ccd cl outer A₀ base h₀ L m s Q E B F X N T hk hd hu hret
  refine wpAny_call ?_
  k_dflt ktr_enter
  w_top off
  k_with_none
  k_steps
  all_goals (
    (rename Fr h₀ L _ m => kF)
    (rename News h₀ L _ _ => kN)
    (have q := pos3 (by assumption) (by assumption) (by assumption))
    exact hret _ _ _ _ kF (cb_drop (news := (src, srcObj _ _ _ _ _) :: rest) kN (by walk_at "xm_sub")) ⟨congrArg Value.bool (decide_eq_true (gcd_many (by assumption) (by omega) (by decide))), _, _, _, _, _, by assumption, by assumption, by assumption, rfl⟩)
end
section
def nsp (l : List Nat) (i : Nat) : List Int := ((List.range i).filter fun j => !((l[j]?).any isSp)).map fun (j : Nat) => (j : Int)
theorem nsp_all {l : List Nat} (h : nsp l l.length = []) : trimL l = [] := by
  have hF : (List.range l.length).filter (fun j => !((l[j]?).any isSp)) = [] := List.map_eq_nil_iff.mp h
  have hs : ∀ c ∈ l, isSp c = true := fun c hc => by
    obtain ⟨i, hi⟩ := List.mem_iff_getElem?.mp hc
    obtain ⟨hlt, _⟩ := List.getElem?_eq_some_iff.mp hi
    have := List.filter_eq_nil_iff.mp hF i (List.mem_range.mpr hlt)
    rw [hi] at this
    simpa using this
  have e := trimL_mid (pre := l) (mid := []) (post := []) hs (fun _ h => nomatch h) (fun _ h => nomatch h) fun _ h => nomatch h
  simpa using e
theorem nsp_cut {l : List Nat} (h : ¬ nsp l l.length = []) : ∃ f g : Nat, (nsp l l.length).getD 0 0 = (f : Int) ∧ (nsp l l.length).getD ((nsp l l.length).length - 1) 0 = (g : Int) ∧ f ≤ g ∧ g < l.length ∧ (l.drop f).take (g + 1 - f) = trimL l := by
  have hne : (List.range l.length).filter (fun j => !((l[j]?).any isSp)) ≠ [] := fun e => h (by unfold nsp; rw [e]; rfl)
  have hp : ((List.range l.length).filter (fun j => !((l[j]?).any isSp))).Pairwise (· < ·) := List.Pairwise.filter _ List.pairwise_lt_range
  have hmem : ∀ j, j < l.length → (!((l[j]?).any isSp)) = true → j ∈ (List.range l.length).filter (fun j => !((l[j]?).any isSp)) := fun j hj hq => List.mem_filter.mpr ⟨List.mem_range.mpr hj, hq⟩
  have hof : ∀ j, j ∈ (List.range l.length).filter (fun j => !((l[j]?).any isSp)) → j < l.length ∧ (!((l[j]?).any isSp)) = true := fun j hj => ⟨List.mem_range.mp (List.mem_filter.mp hj).1, (List.mem_filter.mp hj).2⟩
  have e : nsp l l.length = ((List.range l.length).filter (fun j => !((l[j]?).any isSp))).map fun (j : Nat) => (j : Int) := rfl
  rw [e]
  generalize (List.range l.length).filter (fun j => !((l[j]?).any isSp)) = F at hne hp hmem hof
  obtain ⟨f, r, rfl⟩ := List.exists_cons_of_ne_nil hne
  obtain ⟨r', g, hg⟩ : ∃ r' g, f :: r = r' ++ [g] := ⟨(f :: r).dropLast, (f :: r).getLast (by simp), (List.dropLast_concat_getLast (by simp)).symm⟩
  have hlo : ∀ j ∈ f :: r, f ≤ j := fun j hj => by
    rcases List.mem_cons.mp hj with rfl | hj
    · exact Nat.le_refl _
    · exact Nat.le_of_lt ((List.pairwise_cons.mp hp).1 j hj)
  have hhi : ∀ j ∈ f :: r, j ≤ g := fun j hj => by
    rw [hg] at hj hp
    rcases List.mem_append.mp hj with hj | hj
    · exact Nat.le_of_lt ((List.pairwise_append.mp hp).2.2 j hj g (by simp))
    · rw [List.mem_singleton.mp hj]; exact Nat.le_refl _
  have hgm : g ∈ f :: r := by rw [hg]; simp
  have hfm : f ∈ f :: r := List.mem_cons_self
  have hfo := hof f hfm
  have hgo := hof g hgm
  have hfg := hlo g hgm
  refine ⟨f, g, rfl, ?_, hfg, hgo.1, ?_⟩
  · rw [hg, List.map_append, List.length_append]
    simp
  · symm
    refine trimL_cut (by omega) (by omega) (fun i c hi hc => ?_) (fun i c hi hc => ?_) (fun c _ hc => ?_) fun c _ hc => ?_
    · obtain ⟨hlt, _⟩ := List.getElem?_eq_some_iff.mp hc
      cases hq : isSp c with
      | true => rfl
      | false =>
        have := hlo i (hmem i hlt (by rw [hc]; simp [hq]))
        omega
    · obtain ⟨hlt, _⟩ := List.getElem?_eq_some_iff.mp hc
      cases hq : isSp c with
      | true => rfl
      | false =>
        have := hhi i (hmem i hlt (by rw [hc]; simp [hq]))
        omega
    · have := hfo.2
      rw [hc] at this
      simpa using this
    · have := hgo.2
      rw [show g + 1 - 1 = g by omega] at hc
      rw [hc] at this
      simpa using this
end
section
def TextC (prog : Program) (w : World) (K : Frag) (p : Program) (loose : List Str) (mean : ExcName → Option Value) (mg mb : Str → Option Value) (f : Addr) : Prop :=
  ∀ (src : Addr) (a b : Int) (ta tb : Tok) (n : Nat) (rest : Led), 0 ≤ a → 0 ≤ b → b < 2147483647 → OffAll src rest →
    CallsTo prog w K p loose mean mg mb f 8 400 [.ref src] ((src, srcObj a b ta tb n) :: rest)
      fun r news' => r = .bool true ∧ SrcOut src rest news'
section
variable {prog : Program} {w : World} {A : Around} {s : Shared} {h₀ : Heap} {L : Addr} {m : Str → Option Value} {env : Env}
open LCg LCt in
theorem rest_invT {ct elt : Expr} {x : Str} {scope : Scope} {cl : List (Str × Addr)} {S : Led → Prop} {P : Nat → Value → Prop} {Fin : List Value → Led → Prop} {n : Nat} (Inv : Nat → List Value → Led → Prop)
    (step : ∀ i ys news v I oI C oC D m₂ h tk (E' : Value → Shared → Prop), i < n → Inv i ys news → P i v → NsObj oC m₂ → m₂ x = some v → Fr h₀ L h m → News h₀ L h ((I, oI) :: (C, oC) :: (D, lst ys) :: news) → Off3 I C D news → ((@Ne Nat I C) ∧ (@Ne Nat I D) ∧ (@Ne Nat C D)) →
      wpAny (model prog w) A (isTrue ct (compEnvC scope cl C env) (eval ct (compEnvC scope cl C env))) (fun ok s' => if ok = true then
        wpAny (model prog w) A (eval elt (compEnvC scope cl C env)) (CompEnd h₀ L m { s with heap := h, toks := tk } I oI C oC D (lst ys) S (fun y news' => Inv (i + 1) (ys ++ [y]) news')) E' s'
        else CompEnd h₀ L m { s with heap := h, toks := tk } I oI C oC D (lst ys) S (fun _ news' => Inv (i + 1) ys news') Value.none s') E' { s with heap := h, toks := tk })
    (fin : ∀ ys news, Inv n ys news → Fin ys news) : ∀ k i ys news, i + k = n → Inv i ys news → CompRestT prog w A h₀ L m env ct elt x scope cl s S P Fin k i ys news
  | 0, i, ys, news, e, hi => CompRestT.zero (fin ys news (by rw [← e]; exact hi))
  | k + 1, i, ys, news, e, hi => CompRestT.succ fun v I oI C oC D m₂ h tk E' hP hC hx F N o hne =>
    wpAny_mono (step i ys news v I oI C oC D m₂ h tk E' (by omega) hi hP hC hx F N o hne) (fun ok s₂ hc => by
      cases ok with
      | true =>
        simp only [if_true] at hc ⊢
        exact wpAny_mono hc (fun y s₃ hc' => compEnd_mono hc' fun n' hn' => rest_invT Inv step fin k (i + 1) (ys ++ [y]) n' (by omega) hn') fun _ _ x => x
      | false =>
        simp only [Bool.false_eq_true, if_false] at hc ⊢
        exact compEnd_mono hc fun n' hn' => rest_invT Inv step fin k (i + 1) ys n' (by omega) hn') fun _ _ x => x
end
theorem nsp_out {l : List Nat} {i c : Nat} (hc : l[i]? = some c) (hm : ¬ c ∈ spaces) : nsp l (i + 1) = nsp l i ++ [(0 : Int) + (i : Int)] := by
  unfold nsp
  rw [List.range_succ, List.filter_append, List.map_append]
  have : (!((l[i]?).any isSp)) = true := by rw [hc]; simp [sp_out hm]
  rw [List.filter_cons_of_pos (p := fun j => !((l[j]?).any isSp)) this]
  simp
theorem nsp_in {l : List Nat} {i c : Nat} (hc : l[i]? = some c) (hm : c ∈ spaces) : nsp l (i + 1) = nsp l i := by
  unfold nsp
  rw [List.range_succ, List.filter_append, List.map_append]
  have : ¬ (!((l[i]?).any isSp)) = true := by rw [hc]; simp [sp_in hm]
  rw [List.filter_cons_of_neg (p := fun j => !((l[j]?).any isSp)) this]
  simp
abbrev strOf {o : Obj} {x : Str} {t : Tok} (_ : o.data = Data.cell (some (Value.str x t))) : Str := x
def TxInv (x : Str) (tail : Led) (i : Nat) (ys : List Value) (news : Led) : Prop := news = tail ∧ IntsAre ys (nsp (cs x) i)
theorem char_is {x : Str} {j : Int} (h0 : 0 ≤ j) (h1 : j < x.length) : (cs x)[j.toNat]? = some ((Txt.charAt x j).getD 0) := by
  obtain ⟨c, hc⟩ := StrLaws.some_at h0 h1
  have e : Txt.charAt x j = some c := StrLaws.at_nonneg h0 hc
  rw [e, Array.getElem?_toList]
  exact hc
theorem txInv_out {x : Str} {tail : Led} {i : Nat} {ys : List Value} {c : Nat} {t : Tok} (h : IntsAre ys (nsp (cs x) i)) (hc : (cs x)[(0 + (i : Int)).toNat]? = some c) (hm : ¬ c ∈ spaces) : TxInv x tail (i + 1) (ys ++ [.int (0 + (i : Int)) t]) tail :=
  ⟨rfl, by rw [nsp_out (by rw [← hc]; congr 1; omega) hm]; exact h.append (.cons _ _ .nil)⟩
theorem txInv_in {x : Str} {tail : Led} {i : Nat} {ys : List Value} {c : Nat} (h : IntsAre ys (nsp (cs x) i)) (hc : (cs x)[(0 + (i : Int)).toNat]? = some c) (hm : c ∈ spaces) : TxInv x tail (i + 1) ys tail :=
  ⟨rfl, by rw [nsp_in (by rw [← hc]; congr 1; omega) hm]; exact h⟩
theorem lst_first {prog : Program} {w : World} {A : Around} {E : Value → Shared → Prop} {s : Shared} {h₀ : Heap} {L D : Addr} {news : Led} {ys : List Value} {ns : List Int} {n : Nat} {u : Tok} {value slice : PySem.Expr} {Q : Value → Shared → Prop}
    (N : News h₀ L s.heap news) (hm : (D, ({ cls := .type "list", data := .seq ys.toArray n } : Obj)) ∈ news) (hi : IntsAre ys ns) (hne : ¬ ns = []) (h : ∀ t, Q (.int (ns.getD 0 0) t) s)
    (hs : subscripted slice false (.ref D) (.int 0 u) = operate [.ref D, .int 0 u] (getItem (.ref D) (.int 0 u)) := by with_unfolding_all rfl) :
    wpAny (model prog w) A (subscriptTail value slice (.ref D) (.int 0 u)) Q E s :=
  item_anyK (PySem.IsL.isList (n := n) (N _ hm).1) hi (by decide) (by cases ns with | nil => exact absurd rfl hne | cons a r => rw [List.length_cons]; omega) (by decide) h hs
theorem lst_last {prog : Program} {w : World} {A : Around} {E : Value → Shared → Prop} {s : Shared} {h₀ : Heap} {L D : Addr} {news : Led} {ys : List Value} {ns : List Int} {n : Nat} {u : Tok} {value slice : PySem.Expr} {Q : Value → Shared → Prop}
    (N : News h₀ L s.heap news) (hm : (D, ({ cls := .type "list", data := .seq ys.toArray n } : Obj)) ∈ news) (hi : IntsAre ys ns) (hne : ¬ ns = []) (h : ∀ t, Q (.int (ns.getD (ns.length - 1) 0) t) s)
    (hs : subscripted slice false (.ref D) (.int (-1) u) = operate [.ref D, .int (-1) u] (getItem (.ref D) (.int (-1) u)) := by with_unfolding_all rfl) :
    wpAny (model prog w) A (subscriptTail value slice (.ref D) (.int (-1) u)) Q E s := by
  have hl : s.heap.IsList D ys.toArray := PySem.IsL.isList (n := n) (N _ hm).1
  have hlen := hi.length
  have hp : 0 < ns.length := by cases ns with | nil => exact absurd rfl hne | cons a r => rw [List.length_cons]; omega
  have hg : ns[ns.length - 1]? = some (ns.getD (ns.length - 1) 0) := by
    rw [List.getD_eq_getElem?_getD, List.getElem?_eq_getElem (by omega)]
    rfl
  obtain ⟨t, hx⟩ := hi.get (ns.length - 1) _ hg
  refine tail_any hl.typeIs slot_list_getitem.lookup (wpAny_getItem_list_neg hl (by decide) (by rw [List.size_toArray]; omega) (by decide) ?_ (h t)) hs
  rw [List.size_toArray, show ((-1 : Int) + (ys.length : Int)).toNat = ns.length - 1 by omega]
  simpa using hx
theorem due_some {x : Str} (h : ¬ nsp (cs x) ((x.length : Int) - 0).toNat = []) : (trimS x == Txt.slice x (some ((nsp (cs x) ((x.length : Int) - 0).toNat).getD 0 0)) (some ((nsp (cs x) ((x.length : Int) - 0).toNat).getD ((nsp (cs x) ((x.length : Int) - 0).toNat).length - 1) 0 + 1))) = true := by
  have l := cs_len x
  have e : ((x.length : Int) - 0).toNat = (cs x).length := by omega
  rw [e] at h ⊢
  obtain ⟨f, g, hf, hg, h1, h2, h3⟩ := nsp_cut h
  rw [hf, hg, slice_nat (by omega) (by omega) (by omega), show (f : Int).toNat = f by omega, show ((g : Int) + 1).toNat = g + 1 by omega, h3, trimS]
  exact beq_self_eq_true _
theorem due_none {x : Str} (h : nsp (cs x) ((x.length : Int) - 0).toNat = []) : (trimS x == Str.ofString "") = true := by
  have l := cs_len x
  have e : ((x.length : Int) - 0).toNat = (cs x).length := by omega
  rw [e] at h
  rw [trimS, nsp_all h]
  decide +kernel
theorem offLt1 {d : Addr} {rest : Led} (h : AllLt d rest) : ∀ p ∈ rest, p.1 ≠ d + 1 := fun p hp => Nat.ne_of_lt (Nat.lt_succ_of_lt (ktn_ltOf h p hp))
theorem offLt2 {d : Addr} {rest : Led} (h : AllLt d rest) : ∀ p ∈ rest, p.1 ≠ d + 1 + 1 := fun p hp => Nat.ne_of_lt (Nat.lt_succ_of_lt (Nat.lt_succ_of_lt (ktn_ltOf h p hp)))
local macro_rules | `(tactic| k_all) => `(tactic| first | exact OffAll.out (by with_reducible assumption) | exact offLt (by with_reducible assumption) | exact offLt (andR (by with_reducible assumption)) | exact offLt (andR (andR (by with_reducible assumption))) | exact offLt1 (andR (by with_reducible assumption)) | exact offLt2 (andR (by with_reducible assumption)))
local macro_rules | `(tactic| walk_at "call ref") => `(tactic| (k_here; (with_reducible show wpAny _ _ (call (Value.ref 98) _) _ _ _); k_dflt (refine' use ((by assumption : RowC _ _ _ _ _ _ _ _ 98) _ _ _ _ _ _ _ _ _ _ _ ?a1 ?a2 ?a3 ?a4 ?a5 ?a6 ?a7 ?a8) ?k1 ?k2 ?k3 (Pull.news ?xmp ?k4) ?k5 ?kK ?kd ?ku ?_; (case k4 => k_asm); (case xmp => walk_at "xm_pull"); (case k1 => k_asm); (case k2 => k_asm); (case k3 => k_asm); (case k5 => k_asm); (case kK => first | exact rfl | assumption); (case kd => ktr_room); (case ku => ktr_units); (case a1 => assumption); (case a2 => assumption); (case a3 => assumption); (case a4 => decide +kernel); (case a5 => decide +kernel); (case a6 => decide); (case a7 => decide); (case a8 => (show ∀ p ∈ _, Prod.fst p ≠ _); k_all); intro r9 n9 h9 tk9 F9 N9 ho9; (obtain ⟨y9, t9, e9, hl9, hc9, a9, b9, ta9, tb9, m9, a1, a2, a3, e9'⟩ := ho9); subst e9; subst n9)))
local macro_rules | `(tactic| walk_at "exec Assign cons ListComp") => `(tactic| (k_here; k_dflt (refine LCt.Assign_ListComp_T (F₀ := by k_asm) (by rfl) (by with_unfolding_all rfl) (by with_unfolding_all rfl) (by decide) (by rfl) (by decide) (by rfl) (by rfl) (by rfl) ?_)))
local macro_rules | `(tactic| walk_at "CompSrcT") => `(tactic| (k_here; refine unhold ?_))
local macro_rules | `(tactic| walk_at "subscriptTail") => `(tactic| (k_here; (with_reducible show wpAny _ _ (subscriptTail _ _ (Value.str _ _) (Value.int _ _)) _ _ _); k_dflt (refine' str_at ?k1 ?k2 ?k3 ?_ ?k7 ?k8; (case k1 => omega); (case k2 => omega); (case k3 => omega); (case k7 => with_unfolding_all rfl); (case k8 => intro _; with_unfolding_all rfl); k_whole); intro c' hc'))
local macro_rules | `(tactic| walk_at "compareOp NotIn str str") => `(tactic| (k_here; (with_reducible show wpAny _ _ (compareOp CmpOp.NotIn (Value.str (Str.mk _) _) (Value.str _ _)) _ _ _); k_dflt (refine' str_notIn spaces_is ?_; k_whole)))
local macro_rules | `(tactic| walk_at "compareOp NotEq ref ref") => `(tactic| (k_here; (with_reducible show wpAny _ _ (compareOp CmpOp.NotEq (Value.ref _) (Value.ref _)) _ _ _); (with_unfolding_all refine' ne_intsK ?k1 ?k2 ?k3 ?k4 ?k5 ?_; (case k1 => exact News.isList (by k_asm) (by k_mem)); (case k2 => first | assumption | exact IntsAre.nil); (case k3 => exact News.isList (by k_asm) (by k_mem)); (case k4 => first | exact IntsAre.nil | assumption); (case k5 => ktr_units); k_whole)))
local macro_rules | `(tactic| walk_at "subscriptTail") => `(tactic| (k_here; (with_reducible show wpAny _ _ (subscriptTail _ _ (Value.ref _) (Value.int 0 _)) _ _ _); k_dflt (refine' lst_first ?k1 ?k2 ?k3 ?k4 ?_ ?k7; (case k1 => k_asm); (case k2 => k_mem); (case k3 => assumption); (case k4 => first | assumption | exact of_decide_eq_false (by assumption)); (case k7 => with_unfolding_all rfl); k_whole); intro t'))
local macro_rules | `(tactic| walk_at "subscriptTail") => `(tactic| (k_here; (with_reducible show wpAny _ _ (subscriptTail _ _ (Value.ref _) (Value.int (-1) _)) _ _ _); k_dflt (refine' lst_last ?k1 ?k2 ?k3 ?k4 ?_ ?k7; (case k1 => k_asm); (case k2 => k_mem); (case k3 => assumption); (case k4 => first | assumption | exact of_decide_eq_false (by assumption)); (case k7 => with_unfolding_all rfl); k_whole); intro t'))
local macro_rules | `(tactic| walk_at "call ref") => `(tactic| (k_here; (with_reducible show wpAny _ _ (call (Value.ref 58) _) _ _ _); k_dflt (refine' use ((by assumption : TrimC _ _ _ _ _ _ _ _ 58) _ _ _ ?a1) ?k1 ?k2 ?k3 ?k4 ?k5 ?kK ?kd ?ku ?_; (case k1 => k_asm); (case k2 => k_asm); (case k3 => k_asm); (case k4 => k_asm); (case k5 => k_asm); (case kK => first | exact rfl | assumption); (case kd => ktr_room); (case ku => ktr_units); (case a1 => omega); intro r9 n9 h9 tk9 F9 N9 ho9; (obtain ⟨t9, e9, e9'⟩ := ho9); subst e9; subst n9)))
set_option maxHeartbeats 1600000 in
theorem text_ok {prog : Program} {w : World} {p : Program} {loose : List Str} {mean : ExcName → Option Value} {mg mb : Str → Option Value} :
    TextC prog w (hd.heap_39 w.params) p loose mean mg mb 110 := by
  have hRow := @row_ok prog w p loose mean mg mb
  have hTrim := @trim_ok prog w p loose mean mg mb
  intro src a b ta tb n rest ha hb hb2 hoff
  intro dp un gd cn cs fa ccd cl outer A₀ base h₀ L m s Q E B F X N T hk hd hu hret
  refine wpAny_call ?_
  k_dflt (walk_at "xm_enterC")
  w_top off
  k_with_none
  k_steps
  unfold Hold
  refine' LCt.CompSrcT.range (by rfl) (by k_asm) (by k_asm) (by assumption) (small_one (by omega) (by omega) (by omega) (by omega)) (rangeSize_nat _ _) (by rw [PySem.sizeLine_eq]; omega) ?_
  intro g'
  (rename (_ = Data.cell (some (Value.str _ _))) => hcell)
  refine' rest_invT (TxInv (strOf hcell) _) ?step ?fin _ 0 [] _ (Nat.zero_add _) ?start
  case start =>
    refine' ⟨?s1, ?s2⟩
    case s1 => exact rfl
    case s2 => exact IntsAre.nil
  case step =>
    intro i ys news v I oI C oC D m₂ h tk E' hi hInv hP hC hx F' N' off ne
    obtain ⟨e, hys⟩ := hInv
    subst e
    dsimp only [strOf] at hys
    have off9 := off
    simp only [LCg.Off3] at off
    obtain ⟨tv, hP⟩ := hP
    subst hP
    k_steps
    all_goals (
      (rename Fr _ _ _ _ => kF)
      (rename News _ _ _ _ => kN)
      (refine LCg.CompEnd.intro kF kN _ (fun p hp => hp) off9 trivial ?_)
      dsimp only [strOf]
      (first
        | exact txInv_out hys (char_is (by omega) (by omega)) (by assumption)
        | exact txInv_in hys (char_is (by omega) (by omega)) (by assumption)))
  case fin =>
    intro ys news hInv
    obtain ⟨e, hys⟩ := hInv
    subst e
    dsimp only [strOf] at hys
    k_steps
    all_goals (
      (rename Fr h₀ L _ m => kF)
      (rename News h₀ L _ _ => kN)
      exact hret _ _ _ _ kF (cb_drop (news := (src, srcObj _ _ _ _ _) :: rest) kN (by walk_at "xm_sub")) ⟨congrArg Value.bool (by first | exact due_some (by first | assumption | exact of_decide_eq_false (by assumption)) | exact due_none (by first | assumption | exact of_decide_eq_true (by assumption))), _, _, _, _, _, by assumption, by assumption, by assumption, rfl⟩)
end
section
theorem int_is {x : Str} (hd : DigN (cs x)) (hne : ¬ cs x = []) (hl : x.length ≤ 640) : PySem.intText? x = some ((wN (cs x) : Nat) : Int) := PySem.intText_digits hd hne (by omega)
theorem wN_go (l : List Nat) : ∀ a : Nat, l.foldl (fun n c => n * 10 + (c - 48)) a = a * 10 ^ l.length + wN l := by
  induction l with
  | nil => intro a; simp [wN]
  | cons c r ih =>
    intro a
    have e : wN (c :: r) = (0 * 10 + (c - 48)) * 10 ^ r.length + wN r := by
      show r.foldl _ (0 * 10 + (c - 48)) = _
      rw [ih]
    rw [List.foldl_cons, ih, e, List.length_cons, Nat.pow_succ]
    simp only [Nat.add_mul, Nat.zero_mul, Nat.zero_add, Nat.mul_assoc, Nat.mul_comm 10, Nat.add_assoc]
theorem wN_app (l r : List Nat) : wN (l ++ r) = wN l * 10 ^ r.length + wN r := by
  show (l ++ r).foldl _ 0 = _
  rw [List.foldl_append, wN_go]
  rfl
theorem wN_zero (l : List Nat) : wN (48 :: l) = wN l := rfl
theorem wN_lead (l r : List Nat) : wN (lead0 l ++ r) = wN (l ++ r) := by
  induction l with
  | nil => rfl
  | cons c t ih =>
    unfold lead0 at ih ⊢
    by_cases h : c = 48
    · subst h
      rw [List.dropWhile_cons_of_pos (by decide), List.cons_append, wN_zero, ih]
    · rw [List.dropWhile_cons_of_neg (by simpa using h)]
theorem wN_lt {l : List Nat} (h : DigN l) : wN l < 10 ^ l.length := by
  induction l with
  | nil => decide
  | cons c r ih =>
    have hc := h c (.head _)
    have i := ih fun d hd => h d (.tail _ hd)
    have e : wN (c :: r) = (c - 48) * 10 ^ r.length + wN r := by
      have := wN_app [c] r
      rw [List.singleton_append] at this
      rw [this]
      congr 2
      show 0 * 10 + (c - 48) = _
      omega
    rw [e, List.length_cons, Nat.pow_succ]
    have : (c - 48) * 10 ^ r.length ≤ 9 * 10 ^ r.length := Nat.mul_le_mul_right _ (by omega)
    omega
theorem dig_app {l r : List Nat} (h : DigN l) (k : DigN r) : DigN (l ++ r) := fun c hc => (List.mem_append.mp hc).elim (h c) (k c)
theorem dig_in {x y : Str} (h : ∀ c ∈ cs y, c ∈ cs x) (hx : DigN (cs x)) : DigN (cs y) := fun c hc => hx c (h c hc)
theorem nod_small {x y : List Nat} (hx : x.length ≤ 6) (hy : y.length ≤ 6) (dx : DigN x) (dy : DigN y) : topN x y = wN (x ++ y) ∧ botN y = 10 ^ y.length ∧ (lead0 x).length ≤ 400 ∧ (topN x y : Int) < 10000000000000000000000000000000000000000000000000000000000000000000000000000000000000000000000000000000000000000000000000000000000000000000000000000000000000000000000000000000000000000000000000000000000000000000000000000000000000000000000000000000000000000000000000000000000000000000000000000000000000000000000000000000000000000000000000000000000000000000000000000000000000000000000000000000000000000 * (botN y : Int) := by
  have e1 : y.take 400 = y := List.take_of_length_le (by omega)
  have e2 : moreN y = 0 := by
    unfold moreN
    rw [List.getElem?_eq_none (by omega)]
    rfl
  have e3 : topN x y = wN (x ++ y) := by unfold topN; rw [e1, e2, wN_lead]; rfl
  have e4 : botN y = 10 ^ y.length := by unfold botN; rw [e1]
  have l1 : (lead0 x).length ≤ 400 := Nat.le_trans (List.dropWhile_sublist _).length_le (by omega)
  refine ⟨e3, e4, l1, ?_⟩
  have h1 : wN (x ++ y) < 10 ^ (x ++ y).length := wN_lt (dig_app dx dy)
  have h2 : 10 ^ (x ++ y).length ≤ 10 ^ 12 := Nat.pow_le_pow_right (by decide) (by rw [List.length_append]; omega)
  have h3 : 0 < botN y := by rw [e4]; exact Nat.pow_pos (by decide)
  rw [e3]
  have h4 : (wN (x ++ y) : Int) < 1000000000000 := by
    have : wN (x ++ y) < 10 ^ 12 := Nat.lt_of_lt_of_le h1 h2
    omega
  have h5 : (1 : Int) ≤ (botN y : Int) := by omega
  refine Int.lt_of_lt_of_le (Int.lt_of_lt_of_le h4 (by decide : (1000000000000 : Int) ≤ 10000000000000000000000000000000000000000000000000000000000000000000000000000000000000000000000000000000000000000000000000000000000000000000000000000000000000000000000000000000000000000000000000000000000000000000000000000000000000000000000000000000000000000000000000000000000000000000000000000000000000000000000000000000000000000000000000000000000000000000000000000000000000000000000000000000000000000 * 1)) (Int.mul_le_mul_of_nonneg_left h5 (by decide))
/-- what is told of a fraction in lowest terms -/
def Low (T B : Nat) (t b : Int) : Prop := t * B = T * b ∧ 1 ≤ b ∧ b ≤ B ∧ (B : Int).fmod b = 0 ∧ 0 ≤ t ∧ ¬ (t.fmod 2 = 0 ∧ b.fmod 2 = 0) ∧ ¬ (t.fmod 5 = 0 ∧ b.fmod 5 = 0)
theorem low_of {T B : Nat} (hB : 0 < B) : Low T B ((T : Int).fdiv (Int.gcd T B)) ((B : Int).fdiv (Int.gcd T B)) := by
  obtain ⟨t, b, hc, hT, hb⟩ := Nat.exists_coprime T B
  have hg : 0 < Nat.gcd T B := Nat.gcd_pos_of_pos_right _ hB
  rw [Int.gcd_natCast_natCast]
  generalize hgg : Nat.gcd T B = g at hg hT hb
  clear hgg
  subst hT
  subst hb
  have e1 : (((t * g : Nat) : Int)).fdiv (g : Int) = (t : Int) := by
    rw [Int.natCast_mul]
    exact Int.mul_fdiv_cancel _ (by omega)
  have e2 : (((b * g : Nat) : Int)).fdiv (g : Int) = (b : Int) := by
    rw [Int.natCast_mul]
    exact Int.mul_fdiv_cancel _ (by omega)
  rw [e1, e2]
  have hb0 : 0 < b := Nat.pos_of_mul_pos_right hB
  have no : ∀ q : Nat, 1 < q → ¬ ((t : Int).fmod q = 0 ∧ (b : Int).fmod q = 0) := fun q hq ⟨h1, h2⟩ => by
    rw [Int.fmod_eq_emod_of_nonneg _ (by omega)] at h1 h2
    have d1 : q ∣ t := Int.natCast_dvd_natCast.mp (Int.dvd_of_emod_eq_zero h1)
    have d2 : q ∣ b := Int.natCast_dvd_natCast.mp (Int.dvd_of_emod_eq_zero h2)
    have d := Nat.dvd_gcd d1 d2
    rw [hc] at d
    have := Nat.le_of_dvd (by decide) d
    omega
  refine ⟨?_, by omega, ?_, ?_, by omega, no 2 (by decide), no 5 (by decide)⟩
  · rw [Int.natCast_mul, Int.natCast_mul, Int.mul_left_comm, Int.mul_comm (b : Int)]
  · have : b * 1 ≤ b * g := Nat.mul_le_mul_left _ hg
    omega
  · rw [Int.natCast_mul, Int.mul_fmod_right]
end
section
def DigitsC (prog : Program) (w : World) (K : Frag) (p : Program) (loose : List Str) (mean : ExcName → Option Value) (mg mb : Str → Option Value) (f : Addr) : Prop :=
  ∀ (src : Addr) (a b : Int) (ta tb : Tok) (n : Nat) (rest : Led), 0 ≤ a → 0 ≤ b → b < 2147483647 → OffAll src rest →
    CallsTo prog w K p loose mean mg mb f 8 400 [.ref src] ((src, srcObj a b ta tb n) :: rest)
      fun r news' => r = .bool true ∧ SrcOut src rest news'
theorem dig_lit1 : DigN (cs (Str.ofString "0012345678")) := by unfold DigN cs; decide +kernel
theorem dig_lit2 : DigN (cs (Str.ofString "00127")) := by unfold DigN cs; decide +kernel
theorem dig_lit3 : DigN (cs (Str.ofString "05034")) := by unfold DigN cs; decide +kernel
theorem zero_app {x y : Str} : cs (Str.ofString "0" ++ x ++ y) = 48 :: (cs x ++ cs y) := by
  rw [cs_app, cs_app]
  have : cs (Str.ofString "0") = [48] := by unfold cs; decide +kernel
  rw [this]
  rfl
theorem dig_zero {x y : Str} (hx : DigN (cs x)) (hy : DigN (cs y)) : DigN (cs (Str.ofString "0" ++ x ++ y)) := by
  rw [zero_app]
  intro c hc
  rcases List.mem_cons.mp hc with rfl | hc
  · decide
  · exact dig_app hx hy c hc
theorem zero_ne {x y : Str} : ¬ cs (Str.ofString "0" ++ x ++ y) = [] := by rw [zero_app]; exact List.cons_ne_nil _ _
theorem wN_zero_app {x y : Str} : wN (cs (Str.ofString "0" ++ x ++ y)) = wN (cs x ++ cs y) := by rw [zero_app, wN_zero]
theorem nod_pre {x y : Str} (hx : (x.length : Int) ≤ 6) (hy : (y.length : Int) ≤ 6) (dx : DigN (cs x)) (dy : DigN (cs y)) : (lead0 (cs x)).length ≤ 400 → (topN (cs x) (cs y) : Int) < 10000000000000000000000000000000000000000000000000000000000000000000000000000000000000000000000000000000000000000000000000000000000000000000000000000000000000000000000000000000000000000000000000000000000000000000000000000000000000000000000000000000000000000000000000000000000000000000000000000000000000000000000000000000000000000000000000000000000000000000000000000000000000000000000000000000000000000 * (botN (cs y) : Int) := fun _ =>
  (nod_small (by rw [cs_len]; omega) (by rw [cs_len]; omega) dx dy).2.2.2
theorem nod_use {x y : Str} {r : Value} {news news' : Led} (hx : (x.length : Int) ≤ 6) (hy : (y.length : Int) ≤ 6) (dx : DigN (cs x)) (dy : DigN (cs y))
    (ho : (400 < (lead0 (cs x)).length ∧ r = .ref 15 ∧ news' = news) ∨ ((lead0 (cs x)).length ≤ 400 ∧ ∃ (D : Addr) (ta tb : Tok), r = .ref D ∧ (∀ q ∈ news, q.1 < D) ∧ news' = (D, pairObj ((topN (cs x) (cs y) : Int).fdiv (Int.gcd (topN (cs x) (cs y)) (botN (cs y)))) ((botN (cs y) : Int).fdiv (Int.gcd (topN (cs x) (cs y)) (botN (cs y)))) ta tb) :: news)) :
    ∃ (D : Addr) (ta tb : Tok) (t b : Int), r = .ref D ∧ (∀ q ∈ news, q.1 < D) ∧ news' = (D, pairObj t b ta tb) :: news ∧ Low (wN (cs x ++ cs y)) (10 ^ y.length) t b := by
  obtain ⟨e1, e2, e3, _⟩ := nod_small (x := cs x) (y := cs y) (by rw [cs_len]; omega) (by rw [cs_len]; omega) dx dy
  rcases ho with h | ⟨_, D, ta, tb, h1, h2, h3⟩
  · omega
  · rw [e1, e2, cs_len] at h3
    exact ⟨D, ta, tb, _, _, h1, h2, h3, low_of (Nat.pow_pos (by decide))⟩
theorem pow10 {n : Nat} : (10 : Int) ^ ((n : Int)).toNat = ((10 ^ n : Nat) : Int) := by
  rw [Int.toNat_natCast]
  exact (Int.natCast_pow 10 n).symm
theorem pow10_le {y : Str} (hy : (y.length : Int) ≤ 6) : ((10 ^ y.length : Nat) : Int) ≤ 1000000 := by
  have : 10 ^ y.length ≤ 10 ^ 6 := Nat.pow_le_pow_right (by decide) (by omega)
  omega
theorem mul_scale {t : Int} {y : Str} (hy : (y.length : Int) ≤ 6) : IntMulOk t (10 ^ (y.length : Int).toNat) := by
  rw [pow10]
  have := pow10_le hy
  have h0 : 0 ≤ ((10 ^ y.length : Nat) : Int) := Int.natCast_nonneg _
  exact IntMulOk.of_right (intBits_le_64 (by omega) (by omega))
theorem len_zero {x y : Str} (hx : (x.length : Int) ≤ 6) (hy : (y.length : Int) ≤ 6) : (Str.ofString "0" ++ x ++ y).length ≤ 640 := by
  rw [← cs_len, zero_app, List.length_cons, List.length_append, cs_len, cs_len]
  omega
theorem mul_low {T : Nat} {y : Str} {t b v : Int} (hy : (y.length : Int) ≤ 6) (h : Low T (10 ^ y.length) t b) : IntMulOk v b := by
  have := pow10_le hy
  have h2 := h.2.1
  have h3 := h.2.2.1
  exact IntMulOk.of_right (intBits_le_64 (by omega) (by omega))
theorem low_eq {x y : Str} {t b : Int} (h : Low (wN (cs x ++ cs y)) (10 ^ y.length) t b) : t * 10 ^ (y.length : Int).toNat = (wN (cs (Str.ofString "0" ++ x ++ y)) : Int) * b := by
  rw [pow10, wN_zero_app]
  exact h.1
theorem low_mod {T : Nat} {y : Str} {t b : Int} (h : Low T (10 ^ y.length) t b) : ((10 : Int) ^ (y.length : Int).toNat).fmod b = 0 := by
  rw [pow10]
  exact h.2.2.2.1
theorem abs1 {l : List Nat} (h : l = []) (h2 : (wN l : Int) ≠ 0) : False := h2 (by rw [h]; rfl)
theorem abs2 {x y : Str} {t b : Int} (h : Low (wN (cs x ++ cs y)) (10 ^ y.length) t b) (h2 : t * 10 ^ (y.length : Int).toNat ≠ (wN (cs (Str.ofString "0" ++ x ++ y)) : Int) * b) : False := h2 (low_eq h)
theorem abs3 {T : Nat} {y : Str} {t b : Int} (h : Low T (10 ^ y.length) t b) (h2 : ((10 : Int) ^ (y.length : Int).toNat).fmod b ≠ 0) : False := h2 (low_mod h)
theorem abs4 {T B : Nat} {t b : Int} (h : Low T B t b) (h1 : t.fmod 2 = 0) (h2 : b.fmod 2 = 0) : False := h.2.2.2.2.2.1 ⟨h1, h2⟩
theorem abs5 {T B : Nat} {t b : Int} (h : Low T B t b) (h1 : t.fmod 5 = 0) (h2 : b.fmod 5 = 0) : False := h.2.2.2.2.2.2 ⟨h1, h2⟩
theorem str_ne0 {prog : Program} {w : World} {A : Around} {E : Value → Shared → Prop} {s : Shared} {x : Str} {t u : Tok} {Q : Value → Shared → Prop} (h : Q (.bool (!decide (cs x = []))) s) :
    wpAny (model prog w) A (compareOp .NotEq (.str x t) (.str (Str.ofString "") u)) Q E s := by
  refine P.ne_str ?_
  have e : (x.cps.toList != (Str.ofString "").cps.toList) = !decide (cs x = []) := by
    have : (Str.ofString "").cps.toList = [] := by decide +kernel
    rw [this]
    cases h : x.cps.toList with
    | nil => simp [cs, h]
    | cons a r => simp [cs, h]
  rw [e]
  exact h
local macro_rules | `(tactic| k_all) => `(tactic| first | exact OffAll.out (by with_reducible assumption) | exact offLt (by with_reducible assumption) | exact offLt (andR (by with_reducible assumption)) | exact offLt (andR (andR (by with_reducible assumption))) | exact offLt1 (andR (by with_reducible assumption)) | exact offLt2 (andR (by with_reducible assumption)))
local macro_rules | `(tactic| walk_at "call ref") => `(tactic| (k_here; (with_reducible show wpAny _ _ (call (Value.ref 98) _) _ _ _); k_dflt (refine' use ((by assumption : RowC _ _ _ _ _ _ _ _ 98) _ _ _ _ _ _ _ _ _ _ _ ?a1 ?a2 ?a3 ?a4 ?a5 ?a6 ?a7 ?a8) ?k1 ?k2 ?k3 (Pull.news ?xmp ?k4) ?k5 ?kK ?kd ?ku ?_; (case k4 => k_asm); (case xmp => walk_at "xm_pull"); (case k1 => k_asm); (case k2 => k_asm); (case k3 => k_asm); (case k5 => k_asm); (case kK => first | exact rfl | assumption); (case kd => ktr_room); (case ku => ktr_units); (case a1 => assumption); (case a2 => assumption); (case a3 => assumption); (case a4 => decide +kernel); (case a5 => decide +kernel); (case a6 => decide); (case a7 => decide); (case a8 => (show ∀ p ∈ _, Prod.fst p ≠ _); k_all); intro r9 n9 h9 tk9 F9 N9 ho9; (obtain ⟨y9, t9, e9, hl9, hc9, a9, b9, ta9, tb9, m9, a1, a2, a3, e9'⟩ := ho9); subst e9; subst n9)))
local macro_rules | `(tactic| walk_at "call ref") => `(tactic| (k_here; (with_reducible show wpAny _ _ (call (Value.ref 65) _) _ _ _); k_dflt (refine' use ((by assumption : WholeC _ _ _ _ _ _ _ _ 65) _ _ _ ?a1 ?a2) ?k1 ?k2 ?k3 ?k4 ?k5 ?kK ?kd ?ku ?_; (case k1 => k_asm); (case k2 => k_asm); (case k3 => k_asm); (case k4 => k_asm); (case k5 => k_asm); (case kK => first | exact rfl | assumption); (case kd => ktr_room); (case ku => ktr_units); (case a1 => omega); (case a2 => exact dig_in (by assumption) dig_lit1); intro r9 n9 h9 tk9 F9 N9 ho9; (obtain ⟨t9, e9, e9'⟩ := ho9); subst e9; subst n9)))
local macro_rules | `(tactic| walk_at "compareOp NotEq str str") => `(tactic| (k_here; (with_reducible show wpAny _ _ (compareOp CmpOp.NotEq (Value.str _ _) (Value.str (Str.ofString "") _)) _ _ _); k_dflt (refine' str_ne0 ?_; k_whole)))
local macro_rules | `(tactic| walk_at "call ref") => `(tactic| (k_here; (with_reducible show wpAny _ _ (call (Value.ref 72) _) _ _ _); k_dflt (refine' use ((by assumption : NodC _ _ _ _ _ _ _ _ 72) _ _ _ _ _ ?a1 ?a2 ?a3 ?a4 ?a5) ?k1 ?k2 ?k3 ?k4 ?k5 ?kK ?kd ?ku ?_; (case k1 => k_asm); (case k2 => k_asm); (case k3 => k_asm); (case k4 => k_asm); (case k5 => k_asm); (case kK => first | exact rfl | assumption); (case kd => ktr_room); (case ku => ktr_units); (case a1 => omega); (case a2 => omega); (case a3 => exact dig_in (by assumption) dig_lit2); (case a4 => exact dig_in (by assumption) dig_lit3); (case a5 => exact nod_pre (by assumption) (by assumption) (dig_in (by assumption) dig_lit2) (dig_in (by assumption) dig_lit3)); intro r9 n9 h9 tk9 F9 N9 ho9; (obtain ⟨D9, ta9, tb9, t9, b9, e9, l9, e9', low9⟩ := nod_use (by assumption) (by assumption) (dig_in (by assumption) dig_lit2) (dig_in (by assumption) dig_lit3) ho9); clear ho9; subst e9; subst n9; (have low1 := low9.2.1); (try k_lt l9))))
local macro_rules | `(tactic| walk_at "call type:int") => `(tactic| (k_here; (with_reducible show wpAny _ _ (call (Value.type "int") [Value.str _ _]) _ _ _); k_dflt (refine' KIN.call_text (int_is ?d1 ?d2 ?d3) ?d4 ?_; (case d1 => first | exact dig_in (by assumption) dig_lit1 | exact dig_zero (dig_in (by assumption) dig_lit2) (dig_in (by assumption) dig_lit3)); (case d2 => first | exact zero_ne | assumption | exact of_decide_eq_false (by assumption)); (case d3 => first | omega | exact len_zero (by assumption) (by assumption)); (case d4 => first | omega | exact len_zero (by assumption) (by assumption)); k_whole)))
local macro_rules | `(tactic| walk_at "binaryOp Mult int int") => `(tactic| (k_here; first | refine mul_int ?_ (mul_scale (by assumption)) | refine mul_int ?_ (mul_low (by assumption) (by assumption))))
local macro_rules | `(tactic| walk_at "CompEnd") => `(tactic| first
  | (exfalso; exact abs4 (by assumption) (by assumption) (by assumption))
  | (exfalso; exact abs5 (by assumption) (by assumption) (by assumption))
  | ((rename Fr _ _ _ _ => kF9); (rename News _ _ _ _ => kN9); (refine LCg.CompEnd.intro kF9 kN9 _ (fun p hp => hp) (by assumption) (by lcg_src) ?_)))
local macro_rules | `(tactic| walk_at "compareOp Eq ref ref") => `(tactic| (k_here; (with_reducible show wpAny _ _ (compareOp CmpOp.Eq (Value.ref _) (Value.ref _)) _ _ _); (with_unfolding_all refine' eq_intsK (vs := []) (us := []) ?k1 ?k2 ?k3 ?k4 ?k5 ?_; (case k1 => exact News.isList (by k_asm) (by k_mem)); (case k2 => exact IntsAre.nil); (case k3 => exact News.isList (by k_asm) (by k_mem)); (case k4 => exact IntsAre.nil); (case k5 => ktr_units); k_whole)))
set_option maxHeartbeats 1600000 in
theorem digits_ok {prog : Program} {w : World} {p : Program} {loose : List Str} {mean : ExcName → Option Value} {mg mb : Str → Option Value} :
    DigitsC prog w (hd.heap_39 w.params) p loose mean mg mb 115 := by
  have hRow := @row_ok prog w p loose mean mg mb
  have hWhole := @whole_ok prog w p loose mean mg mb
  have hNod := @nod_ok prog w p loose mean mg mb
  intro src a b ta tb n rest ha hb hb2 hoff
  intro dp un gd cn cs fa ccd cl outer A₀ base h₀ L m s Q E B F X N T hk hd hu hret
  refine wpAny_call ?_
  k_dflt (walk_at "xm_enterC")
  w_top off
  k_with_none
  k_steps
  all_goals (first
    | (exfalso; exact abs1 (by assumption) (by assumption))
    | (exfalso; exact abs2 (by assumption) (by assumption))
    | (exfalso; exact abs3 (by assumption) (by assumption))
    | ((rename Fr h₀ L _ m => kF)
       (rename News h₀ L _ _ => kN)
       exact hret _ _ _ _ kF (cb_drop (news := (src, srcObj _ _ _ _ _) :: rest) kN (by walk_at "xm_sub")) ⟨congrArg Value.bool (decide_eq_true rfl), _, _, _, _, _, by assumption, by assumption, by assumption, rfl⟩)
    | (exfalso; omega))
end
section
theorem lit0 : Str.ofString "0" = ⟨#[48]⟩ := by decide +kernel
theorem cs_rep (n : Nat) : cs (Txt.mul (Str.ofString "0") (n : Int)) = List.replicate n 48 := by
  rw [lit0]
  show (Txt.mul ⟨#[48]⟩ (n : Int)).cps.toList = _
  rw [mul_one_list, Int.toNat_natCast]
theorem lit_n : cs (Str.ofString "") = [] := by unfold cs; decide +kernel
theorem lit_7 : cs (Str.ofString "7") = [55] := by unfold cs; decide +kernel
theorem lit_1 : cs (Str.ofString "1") = [49] := by unfold cs; decide +kernel
theorem lit_5 : cs (Str.ofString "5") = [53] := by unfold cs; decide +kernel
theorem lit_15 : cs (Str.ofString "15") = [49, 53] := by unfold cs; decide +kernel
theorem lit_3 : cs (Str.ofString "3") = [51] := by unfold cs; decide +kernel
theorem lit_4 : cs (Str.ofString "4") = [52] := by unfold cs; decide +kernel
theorem rep_9 : cs (Txt.mul (Str.ofString "0") 9) = List.replicate 9 48 := cs_rep 9
theorem rep_399 : cs (Txt.mul (Str.ofString "0") 399) = List.replicate 399 48 := cs_rep 399
theorem rep_400 : cs (Txt.mul (Str.ofString "0") 400) = List.replicate 400 48 := cs_rep 400
theorem rep_500 : cs (Txt.mul (Str.ofString "0") 500) = List.replicate 500 48 := cs_rep 500
theorem eA1 : cs (Txt.mul (Str.ofString "0") 9 ++ Str.ofString "7" ++ Txt.mul (Str.ofString "0") 399) = List.replicate 9 48 ++ [55] ++ List.replicate 399 48 := by simp only [cs_app, lit_n, lit_7, lit_1, lit_5, lit_15, lit_3, lit_4, rep_9, rep_399, rep_400, rep_500]
theorem eA2 : cs (Str.ofString "") = [] := by simp only [cs_app, lit_n, lit_7, lit_1, lit_5, lit_15, lit_3, lit_4, rep_9, rep_399, rep_400, rep_500]
theorem gA1 : (Txt.mul (Str.ofString "0") 9 ++ Str.ofString "7" ++ Txt.mul (Str.ofString "0") 399).length ≤ 1000 := by rw [← cs_len, eA1]; decide +kernel
theorem gA2 : (Str.ofString "").length ≤ 1000 := by rw [← cs_len, eA2]; decide +kernel
theorem gA3 : DigN (cs (Txt.mul (Str.ofString "0") 9 ++ Str.ofString "7" ++ Txt.mul (Str.ofString "0") 399)) := by rw [eA1]; unfold DigN; decide +kernel
theorem gA4 : DigN (cs (Str.ofString "")) := by rw [eA2]; unfold DigN; decide +kernel
theorem gA6 : (lead0 (cs (Txt.mul (Str.ofString "0") 9 ++ Str.ofString "7" ++ Txt.mul (Str.ofString "0") 399))).length ≤ 400 := by rw [eA1]; decide +kernel
theorem gA5 : (lead0 (cs (Txt.mul (Str.ofString "0") 9 ++ Str.ofString "7" ++ Txt.mul (Str.ofString "0") 399))).length ≤ 400 → (topN (cs (Txt.mul (Str.ofString "0") 9 ++ Str.ofString "7" ++ Txt.mul (Str.ofString "0") 399)) (cs (Str.ofString "")) : Int) < 10000000000000000000000000000000000000000000000000000000000000000000000000000000000000000000000000000000000000000000000000000000000000000000000000000000000000000000000000000000000000000000000000000000000000000000000000000000000000000000000000000000000000000000000000000000000000000000000000000000000000000000000000000000000000000000000000000000000000000000000000000000000000000000000000000000000000000 * (botN (cs (Str.ofString "")) : Int) := fun _ => by rw [eA1, eA2]; decide +kernel
theorem gA7 : decide (((topN (cs (Txt.mul (Str.ofString "0") 9 ++ Str.ofString "7" ++ Txt.mul (Str.ofString "0") 399)) (cs (Str.ofString "")) : Int).fdiv (Int.gcd (topN (cs (Txt.mul (Str.ofString "0") 9 ++ Str.ofString "7" ++ Txt.mul (Str.ofString "0") 399)) (cs (Str.ofString ""))) (botN (cs (Str.ofString "")))) = 7 * 10 ^ Int.toNat 399) ∧ ((botN (cs (Str.ofString "")) : Int).fdiv (Int.gcd (topN (cs (Txt.mul (Str.ofString "0") 9 ++ Str.ofString "7" ++ Txt.mul (Str.ofString "0") 399)) (cs (Str.ofString ""))) (botN (cs (Str.ofString "")))) = 1)) = true := by rw [eA1, eA2]; decide +kernel
theorem eB1 : cs (Str.ofString "1" ++ Txt.mul (Str.ofString "0") 400) = [49] ++ List.replicate 400 48 := by simp only [cs_app, lit_n, lit_7, lit_1, lit_5, lit_15, lit_3, lit_4, rep_9, rep_399, rep_400, rep_500]
theorem eB2 : cs (Str.ofString "5") = [53] := by simp only [cs_app, lit_n, lit_7, lit_1, lit_5, lit_15, lit_3, lit_4, rep_9, rep_399, rep_400, rep_500]
theorem gB1 : (Str.ofString "1" ++ Txt.mul (Str.ofString "0") 400).length ≤ 1000 := by rw [← cs_len, eB1]; decide +kernel
theorem gB2 : (Str.ofString "5").length ≤ 1000 := by rw [← cs_len, eB2]; decide +kernel
theorem gB3 : DigN (cs (Str.ofString "1" ++ Txt.mul (Str.ofString "0") 400)) := by rw [eB1]; unfold DigN; decide +kernel
theorem gB4 : DigN (cs (Str.ofString "5")) := by rw [eB2]; unfold DigN; decide +kernel
theorem gB6 : 400 < (lead0 (cs (Str.ofString "1" ++ Txt.mul (Str.ofString "0") 400))).length := by rw [eB1]; decide +kernel
theorem gB5 : (lead0 (cs (Str.ofString "1" ++ Txt.mul (Str.ofString "0") 400))).length ≤ 400 → (topN (cs (Str.ofString "1" ++ Txt.mul (Str.ofString "0") 400)) (cs (Str.ofString "5")) : Int) < 10000000000000000000000000000000000000000000000000000000000000000000000000000000000000000000000000000000000000000000000000000000000000000000000000000000000000000000000000000000000000000000000000000000000000000000000000000000000000000000000000000000000000000000000000000000000000000000000000000000000000000000000000000000000000000000000000000000000000000000000000000000000000000000000000000000000000000 * (botN (cs (Str.ofString "5")) : Int) := fun h => absurd gB6 (Nat.not_lt.mpr h)
theorem eC1 : cs (Txt.mul (Str.ofString "0") 500) = List.replicate 500 48 := by simp only [cs_app, lit_n, lit_7, lit_1, lit_5, lit_15, lit_3, lit_4, rep_9, rep_399, rep_400, rep_500]
theorem eC2 : cs (Str.ofString "") = [] := by simp only [cs_app, lit_n, lit_7, lit_1, lit_5, lit_15, lit_3, lit_4, rep_9, rep_399, rep_400, rep_500]
theorem gC1 : (Txt.mul (Str.ofString "0") 500).length ≤ 1000 := by rw [← cs_len, eC1]; decide +kernel
theorem gC2 : (Str.ofString "").length ≤ 1000 := by rw [← cs_len, eC2]; decide +kernel
theorem gC3 : DigN (cs (Txt.mul (Str.ofString "0") 500)) := by rw [eC1]; unfold DigN; decide +kernel
theorem gC4 : DigN (cs (Str.ofString "")) := by rw [eC2]; unfold DigN; decide +kernel
theorem gC6 : (lead0 (cs (Txt.mul (Str.ofString "0") 500))).length ≤ 400 := by rw [eC1]; decide +kernel
theorem gC5 : (lead0 (cs (Txt.mul (Str.ofString "0") 500))).length ≤ 400 → (topN (cs (Txt.mul (Str.ofString "0") 500)) (cs (Str.ofString "")) : Int) < 10000000000000000000000000000000000000000000000000000000000000000000000000000000000000000000000000000000000000000000000000000000000000000000000000000000000000000000000000000000000000000000000000000000000000000000000000000000000000000000000000000000000000000000000000000000000000000000000000000000000000000000000000000000000000000000000000000000000000000000000000000000000000000000000000000000000000000 * (botN (cs (Str.ofString "")) : Int) := fun _ => by rw [eC1, eC2]; decide +kernel
theorem gC7 : decide (((topN (cs (Txt.mul (Str.ofString "0") 500)) (cs (Str.ofString "")) : Int).fdiv (Int.gcd (topN (cs (Txt.mul (Str.ofString "0") 500)) (cs (Str.ofString ""))) (botN (cs (Str.ofString "")))) = 0) ∧ ((botN (cs (Str.ofString "")) : Int).fdiv (Int.gcd (topN (cs (Txt.mul (Str.ofString "0") 500)) (cs (Str.ofString ""))) (botN (cs (Str.ofString "")))) = 1)) = true := by rw [eC1, eC2]; decide +kernel
theorem eD1 : cs (Str.ofString "") = [] := by simp only [cs_app, lit_n, lit_7, lit_1, lit_5, lit_15, lit_3, lit_4, rep_9, rep_399, rep_400, rep_500]
theorem eD2 : cs (Txt.mul (Str.ofString "0") 399 ++ Str.ofString "15") = List.replicate 399 48 ++ [49, 53] := by simp only [cs_app, lit_n, lit_7, lit_1, lit_5, lit_15, lit_3, lit_4, rep_9, rep_399, rep_400, rep_500]
theorem gD1 : (Str.ofString "").length ≤ 1000 := by rw [← cs_len, eD1]; decide +kernel
theorem gD2 : (Txt.mul (Str.ofString "0") 399 ++ Str.ofString "15").length ≤ 1000 := by rw [← cs_len, eD2]; decide +kernel
theorem gD3 : DigN (cs (Str.ofString "")) := by rw [eD1]; unfold DigN; decide +kernel
theorem gD4 : DigN (cs (Txt.mul (Str.ofString "0") 399 ++ Str.ofString "15")) := by rw [eD2]; unfold DigN; decide +kernel
theorem gD6 : (lead0 (cs (Str.ofString ""))).length ≤ 400 := by rw [eD1]; decide +kernel
theorem gD5 : (lead0 (cs (Str.ofString ""))).length ≤ 400 → (topN (cs (Str.ofString "")) (cs (Txt.mul (Str.ofString "0") 399 ++ Str.ofString "15")) : Int) < 10000000000000000000000000000000000000000000000000000000000000000000000000000000000000000000000000000000000000000000000000000000000000000000000000000000000000000000000000000000000000000000000000000000000000000000000000000000000000000000000000000000000000000000000000000000000000000000000000000000000000000000000000000000000000000000000000000000000000000000000000000000000000000000000000000000000000000 * (botN (cs (Txt.mul (Str.ofString "0") 399 ++ Str.ofString "15")) : Int) := fun _ => by rw [eD1, eD2]; decide +kernel
theorem gD7 : decide (((topN (cs (Str.ofString "")) (cs (Txt.mul (Str.ofString "0") 399 ++ Str.ofString "15")) : Int).fdiv (Int.gcd (topN (cs (Str.ofString "")) (cs (Txt.mul (Str.ofString "0") 399 ++ Str.ofString "15"))) (botN (cs (Txt.mul (Str.ofString "0") 399 ++ Str.ofString "15")))) = 1) ∧ ((botN (cs (Txt.mul (Str.ofString "0") 399 ++ Str.ofString "15")) : Int).fdiv (Int.gcd (topN (cs (Str.ofString "")) (cs (Txt.mul (Str.ofString "0") 399 ++ Str.ofString "15"))) (botN (cs (Txt.mul (Str.ofString "0") 399 ++ Str.ofString "15")))) = 5 * 10 ^ Int.toNat 399)) = true := by rw [eD1, eD2]; decide +kernel
theorem eE1 : cs (Str.ofString "3") = [51] := by simp only [cs_app, lit_n, lit_7, lit_1, lit_5, lit_15, lit_3, lit_4, rep_9, rep_399, rep_400, rep_500]
theorem eE2 : cs (Txt.mul (Str.ofString "0") 400 ++ Str.ofString "4") = List.replicate 400 48 ++ [52] := by simp only [cs_app, lit_n, lit_7, lit_1, lit_5, lit_15, lit_3, lit_4, rep_9, rep_399, rep_400, rep_500]
theorem gE1 : (Str.ofString "3").length ≤ 1000 := by rw [← cs_len, eE1]; decide +kernel
theorem gE2 : (Txt.mul (Str.ofString "0") 400 ++ Str.ofString "4").length ≤ 1000 := by rw [← cs_len, eE2]; decide +kernel
theorem gE3 : DigN (cs (Str.ofString "3")) := by rw [eE1]; unfold DigN; decide +kernel
theorem gE4 : DigN (cs (Txt.mul (Str.ofString "0") 400 ++ Str.ofString "4")) := by rw [eE2]; unfold DigN; decide +kernel
theorem gE6 : (lead0 (cs (Str.ofString "3"))).length ≤ 400 := by rw [eE1]; decide +kernel
theorem gE5 : (lead0 (cs (Str.ofString "3"))).length ≤ 400 → (topN (cs (Str.ofString "3")) (cs (Txt.mul (Str.ofString "0") 400 ++ Str.ofString "4")) : Int) < 10000000000000000000000000000000000000000000000000000000000000000000000000000000000000000000000000000000000000000000000000000000000000000000000000000000000000000000000000000000000000000000000000000000000000000000000000000000000000000000000000000000000000000000000000000000000000000000000000000000000000000000000000000000000000000000000000000000000000000000000000000000000000000000000000000000000000000 * (botN (cs (Txt.mul (Str.ofString "0") 400 ++ Str.ofString "4")) : Int) := fun _ => by rw [eE1, eE2]; decide +kernel
theorem gE7 : decide (((topN (cs (Str.ofString "3")) (cs (Txt.mul (Str.ofString "0") 400 ++ Str.ofString "4")) : Int).fdiv (Int.gcd (topN (cs (Str.ofString "3")) (cs (Txt.mul (Str.ofString "0") 400 ++ Str.ofString "4"))) (botN (cs (Txt.mul (Str.ofString "0") 400 ++ Str.ofString "4")))) = 3) ∧ ((botN (cs (Txt.mul (Str.ofString "0") 400 ++ Str.ofString "4")) : Int).fdiv (Int.gcd (topN (cs (Str.ofString "3")) (cs (Txt.mul (Str.ofString "0") 400 ++ Str.ofString "4"))) (botN (cs (Txt.mul (Str.ofString "0") 400 ++ Str.ofString "4")))) = 1)) = true := by rw [eE1, eE2]; decide +kernel
end
section
def GreatC (prog : Program) (w : World) (K : Frag) (p : Program) (loose : List Str) (mean : ExcName → Option Value) (mg mb : Str → Option Value) (f : Addr) : Prop :=
  ∀ (src : Addr) (a b : Int) (ta tb : Tok) (n : Nat) (rest : Led), 0 ≤ a → 0 ≤ b → b < 2147483647 → OffAll src rest →
    CallsTo prog w K p loose mean mg mb f 8 400 [.ref src] ((src, srcObj a b ta tb n) :: rest)
      fun r news' => r = .bool true ∧ SrcOut src rest news'
theorem eq_pairs {prog : Program} {w : World} {A : Around} {E : Value → Shared → Prop} {s : Shared} {h₀ : Heap} {L D D' : Addr} {news : Led} {a b c d : Int} {ta tb tc td : Tok} {Q : Value → Shared → Prop}
    (N : News h₀ L s.heap news) (hm : (D, pairObj a b ta tb) ∈ news) (hm' : (D', pairObj c d tc td) ∈ news) (hu : A.units + 64 < cLine) (h : Q (.bool (decide (a = c ∧ b = d))) s) :
    wpAny (model prog w) A (compareOp .Eq (.ref D) (.ref D')) Q E s := by
  refine eq_dataH_same (reads_tuple_at (N.get hm) rfl rfl (.cons (Reads.int _ _) (.cons (Reads.int _ _) .nil))) (reads_tuple_at (N.get hm') rfl rfl (.cons (Reads.int _ _) (.cons (Reads.int _ _) .nil))) rfl rfl hu rfl ?_
  have e : Spec.same (.tuple [.int a, .int b]) (.tuple [.int c, .int d]) = decide (a = c ∧ b = d) := by
    simp only [Spec.same, Spec.sameAll]
    by_cases h1 : a = c <;> by_cases h2 : b = d <;> simp [h1, h2]
  rw [e]
  exact h
theorem great_pair {l : List Nat} {r : Value} {news news' : Led} {t b : Int} (h : l.length ≤ 400)
    (ho : (400 < l.length ∧ r = .ref 15 ∧ news' = news) ∨ (l.length ≤ 400 ∧ ∃ (D : Addr) (ta tb : Tok), r = .ref D ∧ (∀ q ∈ news, q.1 < D) ∧ news' = (D, pairObj t b ta tb) :: news)) :
    ∃ (D : Addr) (ta tb : Tok), r = .ref D ∧ (∀ q ∈ news, q.1 < D) ∧ news' = (D, pairObj t b ta tb) :: news := by
  rcases ho with q | q
  · omega
  · exact q.2
theorem great_inf {l : List Nat} {r : Value} {news news' : Led} {P : Prop} (h : 400 < l.length) (ho : (400 < l.length ∧ r = .ref 15 ∧ news' = news) ∨ (l.length ≤ 400 ∧ P)) : r = .ref 15 ∧ news' = news := by
  rcases ho with q | q
  · exact q.2
  · omega
local macro_rules | `(tactic| k_all) => `(tactic| first | exact OffAll.out (by with_reducible assumption) | exact offLt (by with_reducible assumption) | exact offLt (andR (by with_reducible assumption)) | exact offLt (andR (andR (by with_reducible assumption))) | exact offLt1 (andR (by with_reducible assumption)) | exact offLt2 (andR (by with_reducible assumption)))
local macro_rules | `(tactic| walk_at "call ref") => `(tactic| (k_here; (with_reducible show wpAny _ _ (call (Value.ref 51) _) _ _ _); refine wpAny_call ?_; k_dflt (walk_at "xm_enterK")))
local macro_rules | `(tactic| walk_at "compareOp Eq ref ref") => `(tactic| (k_here; (with_reducible show wpAny _ _ (compareOp CmpOp.Eq (Value.ref _) (Value.ref _)) _ _ _); k_dflt (refine' eq_pairs ?k1 ?k2 ?k3 ?k4 ?_; (case k1 => k_asm); (case k2 => k_mem); (case k3 => k_mem); (case k4 => ktr_units); k_whole)))
set_option maxHeartbeats 1600000 in
theorem great_ok {prog : Program} {w : World} {p : Program} {loose : List Str} {mean : ExcName → Option Value} {mg mb : Str → Option Value} :
    GreatC prog w (hd.heap_39 w.params) p loose mean mg mb 122 := by
  have hTake := @take_ok prog w p loose mean mg mb
  have hNod := @nod_ok prog w p loose mean mg mb
  intro src a b ta tb n rest ha hb hb2 hoff
  intro dp un gd cn cs fa ccd cl outer A₀ base h₀ L m s Q E B F X N T hk hd hu hret
  refine wpAny_call ?_
  k_dflt ktr_enter
  w_top off
  k_with_none
  repeat' (first | (k_here; (with_reducible show wpAny _ _ (call (Value.ref 72) [Value.str (Str.ofString "3") _, Value.str (Txt.mul (Str.ofString "0") 400 ++ Str.ofString "4") _]) _ _ _); k_dflt (refine' use ((by assumption : NodC _ _ _ _ _ _ _ _ 72) _ _ _ _ _ gE1 gE2 gE3 gE4 gE5) ?k1v5 ?k2v5 ?k3v5 ?k4v5 ?k5v5 ?kKv5 ?kdv5 ?kuv5 ?_; (case k1v5 => k_asm); (case k2v5 => k_asm); (case k3v5 => k_asm); (case k4v5 => k_asm); (case k5v5 => k_asm); (case kKv5 => first | exact rfl | assumption); (case kdv5 => ktr_room); (case kuv5 => ktr_units); intro r9 n9 h9 tk9 F9 N9 ho9; (obtain ⟨D9, ta9, tb9, e9, l9, e9'⟩ := great_pair gE6 ho9); clear ho9; subst e9; subst n9; (try k_lt l9))) | (k_here; (with_reducible show wpAny _ _ (call (Value.ref 72) [Value.str (Str.ofString "") _, Value.str (Txt.mul (Str.ofString "0") 399 ++ Str.ofString "15") _]) _ _ _); k_dflt (refine' use ((by assumption : NodC _ _ _ _ _ _ _ _ 72) _ _ _ _ _ gD1 gD2 gD3 gD4 gD5) ?k1v4 ?k2v4 ?k3v4 ?k4v4 ?k5v4 ?kKv4 ?kdv4 ?kuv4 ?_; (case k1v4 => k_asm); (case k2v4 => k_asm); (case k3v4 => k_asm); (case k4v4 => k_asm); (case k5v4 => k_asm); (case kKv4 => first | exact rfl | assumption); (case kdv4 => ktr_room); (case kuv4 => ktr_units); intro r9 n9 h9 tk9 F9 N9 ho9; (obtain ⟨D9, ta9, tb9, e9, l9, e9'⟩ := great_pair gD6 ho9); clear ho9; subst e9; subst n9; (try k_lt l9))) | (k_here; (with_reducible show wpAny _ _ (call (Value.ref 72) [Value.str (Txt.mul (Str.ofString "0") 500) _, Value.str (Str.ofString "") _]) _ _ _); k_dflt (refine' use ((by assumption : NodC _ _ _ _ _ _ _ _ 72) _ _ _ _ _ gC1 gC2 gC3 gC4 gC5) ?k1v3 ?k2v3 ?k3v3 ?k4v3 ?k5v3 ?kKv3 ?kdv3 ?kuv3 ?_; (case k1v3 => k_asm); (case k2v3 => k_asm); (case k3v3 => k_asm); (case k4v3 => k_asm); (case k5v3 => k_asm); (case kKv3 => first | exact rfl | assumption); (case kdv3 => ktr_room); (case kuv3 => ktr_units); intro r9 n9 h9 tk9 F9 N9 ho9; (obtain ⟨D9, ta9, tb9, e9, l9, e9'⟩ := great_pair gC6 ho9); clear ho9; subst e9; subst n9; (try k_lt l9))) | (k_here; (with_reducible show wpAny _ _ (call (Value.ref 72) [Value.str (Str.ofString "1" ++ Txt.mul (Str.ofString "0") 400) _, Value.str (Str.ofString "5") _]) _ _ _); k_dflt (refine' use ((by assumption : NodC _ _ _ _ _ _ _ _ 72) _ _ _ _ _ gB1 gB2 gB3 gB4 gB5) ?k1v2 ?k2v2 ?k3v2 ?k4v2 ?k5v2 ?kKv2 ?kdv2 ?kuv2 ?_; (case k1v2 => k_asm); (case k2v2 => k_asm); (case k3v2 => k_asm); (case k4v2 => k_asm); (case k5v2 => k_asm); (case kKv2 => first | exact rfl | assumption); (case kdv2 => ktr_room); (case kuv2 => ktr_units); intro r9 n9 h9 tk9 F9 N9 ho9; (obtain ⟨e9, e9'⟩ := great_inf gB6 ho9); clear ho9; subst e9; subst n9)) | (k_here; (with_reducible show wpAny _ _ (call (Value.ref 72) [Value.str (Txt.mul (Str.ofString "0") 9 ++ Str.ofString "7" ++ Txt.mul (Str.ofString "0") 399) _, Value.str (Str.ofString "") _]) _ _ _); k_dflt (refine' use ((by assumption : NodC _ _ _ _ _ _ _ _ 72) _ _ _ _ _ gA1 gA2 gA3 gA4 gA5) ?k1v1 ?k2v1 ?k3v1 ?k4v1 ?k5v1 ?kKv1 ?kdv1 ?kuv1 ?_; (case k1v1 => k_asm); (case k2v1 => k_asm); (case k3v1 => k_asm); (case k4v1 => k_asm); (case k5v1 => k_asm); (case kKv1 => first | exact rfl | assumption); (case kdv1 => ktr_room); (case kuv1 => ktr_units); intro r9 n9 h9 tk9 F9 N9 ho9; (obtain ⟨D9, ta9, tb9, e9, l9, e9'⟩ := great_pair gA6 ho9); clear ho9; subst e9; subst n9; (try k_lt l9))) | (k_here; (with_reducible show wpAny _ _ (call (Value.ref 86) _) _ _ _); k_dflt (refine' use ((by assumption : TakeC _ _ _ _ _ _ _ _ 86) _ _ _ _ _ _ _ _ _ ?a1v0 ?a2v0 ?a3v0 ?a4v0 ?a5v0 ?a6v0) ?k1v0 ?k2v0 ?k3v0 (Pull.news ?xmpv0 ?k4v0) ?k5v0 ?kKv0 ?kdv0 ?kuv0 ?_; (case k4v0 => k_asm); (case xmpv0 => walk_at "xm_pull"); (case k1v0 => k_asm); (case k2v0 => k_asm); (case k3v0 => k_asm); (case k5v0 => k_asm); (case kKv0 => first | exact rfl | assumption); (case kdv0 => ktr_room); (case kuv0 => ktr_units); (case a1v0 => assumption); (case a2v0 => assumption); (case a3v0 => assumption); (case a4v0 => first | omega | decide); (case a5v0 => first | omega | decide); (case a6v0 => (show ∀ p ∈ _, Prod.fst p ≠ _); k_all); intro r9 n9 h9 tk9 F9 N9 ho9; (obtain ⟨v9, t9, a9, b9, ta9, tb9, m9, e9, v1, v2, a1, a2, a3, e9'⟩ := ho9); subst e9; subst n9)) | (k_unfold; (try dsimp only)) | (k_end; kc_close) | walk1 | (dsimp only; walk1) | (leave1; walk_say "STEP leave1"; (try dsimp only)) | fail "no step")
  · (rename Fr h₀ L _ m => kF)
    (rename News h₀ L _ _ => kN)
    exact hret _ _ _ _ kF (cb_drop (news := (src, srcObj _ _ _ _ _) :: rest) kN (by walk_at "xm_sub")) ⟨congrArg Value.bool gA7, _, _, _, _, _, by assumption, by assumption, by assumption, rfl⟩
  · (rename Fr h₀ L _ m => kF)
    (rename News h₀ L _ _ => kN)
    exact hret _ _ _ _ kF (cb_drop (news := (src, srcObj _ _ _ _ _) :: rest) kN (by walk_at "xm_sub")) ⟨congrArg Value.bool gC7, _, _, _, _, _, by assumption, by assumption, by assumption, rfl⟩
  · (rename Fr h₀ L _ m => kF)
    (rename News h₀ L _ _ => kN)
    exact hret _ _ _ _ kF (cb_drop (news := (src, srcObj _ _ _ _ _) :: rest) kN (by walk_at "xm_sub")) ⟨congrArg Value.bool gD7, _, _, _, _, _, by assumption, by assumption, by assumption, rfl⟩
  · (rename Fr h₀ L _ m => kF)
    (rename News h₀ L _ _ => kN)
    exact hret _ _ _ _ kF (cb_drop (news := (src, srcObj _ _ _ _ _) :: rest) kN (by walk_at "xm_sub")) ⟨congrArg Value.bool gE7, _, _, _, _, _, by assumption, by assumption, by assumption, rfl⟩
end
section
def NanC (prog : Program) (w : World) (K : Frag) (p : Program) (loose : List Str) (mean : ExcName → Option Value) (mg mb : Str → Option Value) (f : Addr) : Prop :=
  ∀ (D : Addr) (a b : Int) (ta tb : Tok) (news : Led), (D, pairObj a b ta tb) ∈ news →
    CallsTo prog w K p loose mean mg mb f 1 8 [.ref D] news
      fun r news' => r = .bool (decide (b = 0 ∧ a = 0)) ∧ news' = news
def InfC (prog : Program) (w : World) (K : Frag) (p : Program) (loose : List Str) (mean : ExcName → Option Value) (mg mb : Str → Option Value) (f : Addr) : Prop :=
  ∀ (D : Addr) (a b : Int) (ta tb : Tok) (news : Led), (D, pairObj a b ta tb) ∈ news →
    CallsTo prog w K p loose mean mg mb f 1 8 [.ref D] news
      fun r news' => r = .bool (decide (b = 0 ∧ a ≠ 0)) ∧ news' = news
theorem nanE1 {a b : Int} (h : b = 0) : (a == 0) = decide (b = 0 ∧ a = 0) := by rw [Bool.eq_iff_iff]; simp [h]
theorem nanE0 {a b : Int} (h : b ≠ 0) : (b == 0) = decide (b = 0 ∧ a = 0) := by rw [Bool.eq_iff_iff]; simp [h]
theorem infE1 {a b : Int} (h : b = 0) : (a != 0) = decide (b = 0 ∧ a ≠ 0) := by rw [Bool.eq_iff_iff]; simp [h]
theorem infE0 {a b : Int} (h : b ≠ 0) : (b == 0) = decide (b = 0 ∧ a ≠ 0) := by rw [Bool.eq_iff_iff]; simp [h]
theorem in_pairs {prog : Program} {w : World} {A : Around} {E : Value → Shared → Prop} {s : Shared} {h₀ : Heap} {L D l D1 D2 : Addr} {news : Led} {a b c d e f : Int} {ta tb tc td te tf : Tok} {n : Nat} {Q : Value → Shared → Prop}
    (N : News h₀ L s.heap news) (hm : (D, pairObj a b ta tb) ∈ news) (hl : (l, ({ cls := .type "list", data := .seq #[.ref D1, .ref D2] n } : Obj)) ∈ news) (h1 : (D1, pairObj c d tc td) ∈ news) (h2 : (D2, pairObj e f te tf) ∈ news) (hu : A.units + 65 < cLine)
    (h : Q (.bool (decide ((a = c ∧ b = d) ∨ (a = e ∧ b = f)))) s) :
    wpAny (model prog w) A (compareOp .In (.ref D) (.ref l)) Q E s := by
  have q : (List.any [PyData.tuple [.int c, .int d], .tuple [.int e, .int f]] fun y => y.eqv (.tuple [.int a, .int b])) = decide ((a = c ∧ b = d) ∨ (a = e ∧ b = f)) := by
    rw [Bool.eq_iff_iff]
    simp only [List.any_cons, List.any_nil, PyData.eqv, PyData.eqvAll, Bool.or_false, Bool.and_true, Bool.or_eq_true, Bool.and_eq_true, beq_iff_eq, decide_eq_true_eq]
    omega
  refine SeqAt.in_list_reads (xs := [.tuple [.int c, .int d], .tuple [.int e, .int f]]) (d := .tuple [.int a, .int b])
    (reads_list_at (N.get hl) rfl rfl (.cons (reads_tuple_at (N.get h1) rfl rfl (.cons (Reads.int _ _) (.cons (Reads.int _ _) .nil))) (.cons (reads_tuple_at (N.get h2) rfl rfl (.cons (Reads.int _ _) (.cons (Reads.int _ _) .nil))) .nil)))
    (reads_tuple_at (N.get hm) rfl rfl (.cons (Reads.int _ _) (.cons (Reads.int _ _) .nil))) rfl rfl (room_in_shaped rfl hu) ?_
  rw [q]
  exact h
set_option maxHeartbeats 600000 in
theorem nan_ok {prog : Program} {w : World} {p : Program} {loose : List Str} {mean : ExcName → Option Value} {mg mb : Str → Option Value} :
    NanC prog w (hd.heap_39 w.params) p loose mean mg mb 44 := by
  intro D a b ta tb news hm
  intro dp un gd cn cs fa ccd cl outer A₀ base h₀ L m s Q E B F X N T hk hd hu hret
  refine wpAny_call ?_
  k_dflt ktr_enter
  w_top off
  k_with_none
  k_steps
  all_goals (
    (rename Fr h₀ L _ m => kF)
    (rename News h₀ L _ _ => kN)
    (first
      | exact hret _ _ _ _ kF kN ⟨congrArg Value.bool (nanE1 (by assumption)), rfl⟩
      | exact hret _ _ _ _ kF kN ⟨congrArg Value.bool (nanE0 (by assumption)), rfl⟩))
set_option maxHeartbeats 600000 in
theorem inf_ok {prog : Program} {w : World} {p : Program} {loose : List Str} {mean : ExcName → Option Value} {mg mb : Str → Option Value} :
    InfC prog w (hd.heap_39 w.params) p loose mean mg mb 51 := by
  intro D a b ta tb news hm
  intro dp un gd cn cs fa ccd cl outer A₀ base h₀ L m s Q E B F X N T hk hd hu hret
  refine wpAny_call ?_
  k_dflt ktr_enter
  w_top off
  k_with_none
  k_steps
  all_goals (
    (rename Fr h₀ L _ m => kF)
    (rename News h₀ L _ _ => kN)
    (first
      | exact hret _ _ _ _ kF kN ⟨congrArg Value.bool (infE1 (by assumption)), rfl⟩
      | exact hret _ _ _ _ kF kN ⟨congrArg Value.bool (infE0 (by assumption)), rfl⟩))
end
section
theorem good_true {cl : Str → Option Addr} {mean : ExcName → Option Value} {args : List WData} {s₁ s' : Shared} {L : Addr} {m : Str → Option Value}
    (F : Fr s₁.heap L s'.heap m) (hg : s'.gens = #[]) (hos : s'.os = s₁.os) :
    GoodW PySem.Challenge.rw_xm0652_01.row.claim cl mean args s₁ (.ok (.ret (.bool true))) s' := by
  refine goodW_bool F hg (raisesW_false ?_) ?_ hos
  · wrow_none_raised
  · kc_post
theorem good_eq {cl : Str → Option Addr} {mean : ExcName → Option Value} {args : List WData} {s₁ s' : Shared} {L : Addr} {m : Str → Option Value} {b : Bool}
    (F : Fr s₁.heap L s'.heap m) (hg : s'.gens = #[]) (hos : s'.os = s₁.os) (hb : b = true) :
    GoodW PySem.Challenge.rw_xm0652_01.row.claim cl mean args s₁ (.ok (.ret (.bool b))) s' := hb ▸ good_true F hg hos
theorem good_not {cl : Str → Option Addr} {mean : ExcName → Option Value} {args : List WData} {s₁ s' : Shared} {L : Addr} {m : Str → Option Value} {b : Bool}
    (F : Fr s₁.heap L s'.heap m) (hg : s'.gens = #[]) (hos : s'.os = s₁.os) (hb : b = false) :
    GoodW PySem.Challenge.rw_xm0652_01.row.claim cl mean args s₁ (.ok (.ret (.bool !b))) s' := by subst hb; exact good_true F hg hos
end
section
local macro_rules | `(tactic| walk_at "xm_off") => `(tactic| first | exact List.forall_mem_nil _ | (refine' List.forall_mem_cons.mpr ⟨?xa, ?xb⟩; (case xa => (refine neN ?_); (try dsimp only); (refine Nat.ne_of_gt ?_); omega); (case xb => walk_at "xm_off")))
local macro_rules | `(tactic| k_ne) => `(tactic| (refine neN ?_; (try dsimp only); first | (refine Nat.ne_of_gt ?_; omega) | (refine Nat.ne_of_lt ?_; omega)))
local macro_rules | `(tactic| walk_at "eval Call") => `(tactic| (k_here; k_dflt (refine Call_ ?_)))
theorem gt_any {prog : Program} {w : World} {A : Around} {E : Value → Shared → Prop} {s : Shared} {a b : Int} {t u : Tok} {Q : Value → Shared → Prop} (h : ∀ g : Bool, Q (.bool g) s) : wpAny (model prog w) A (compareOp .Gt (.int a t) (.int b u)) Q E s := gt_int (h _)
local macro_rules | `(tactic| walk_at "compareOp Gt int int") => `(tactic| (k_here; (try dsimp only); (with_reducible show wpAny _ _ (compareOp CmpOp.Gt (Value.int _ _) (Value.int 0 _)) _ _ _); k_dflt (refine' gt_any ?_; k_whole); intro g9))
def IntEnd (s : Shared) (v : Value) (s' : Shared) : Prop := ∃ (x : Int) (t : Tok) (k : Nat), v = .int x t ∧ s' = { s with toks := k }
theorem intEnd {s : Shared} {x : Int} {t : Tok} {k : Nat} : IntEnd s (.int x t) { s with toks := k } := ⟨_, _, _, rfl, rfl⟩
theorem cell_cut {prog : Program} {w : World} {A : Around} {E : Value → Shared → Prop} {s : Shared} {tree : Sem Value} {Q : Value → Shared → Prop} (h1 : wpAny (model prog w) A tree (IntEnd s) E s)
    (h2 : ∀ (x : Int) (t : Tok) (k : Nat), Q (.int x t) { s with toks := k }) : wpAny (model prog w) A tree Q E s := wpAny_mono h1 (fun _ _ h => by obtain ⟨x, t, k, rfl, rfl⟩ := h; exact h2 x t k) (fun _ _ h => h)
local macro_rules | `(tactic| walk_at "eval IfExp") => `(tactic| (k_here; (try dsimp only); (fail_if_success (with_reducible show wpAny _ _ _ (IntEnd _) _ _)); k_dflt (refine' cell_cut ?xcA ?xcB; (case' xcB => intro x9 t9 k9))))
def Five (x y : Int) : Prop := (x = 0 ∧ y = 0) ∨ (x = 1 ∧ y = 0) ∨ (x = -1 ∧ y = 0) ∨ (x = 0 ∧ y = 1) ∨ (x = -3 ∧ y = 2)
theorem dup {d : Addr} {o : Obj} {l : Led} {h₀ h : Heap} {L : Addr} (N : News h₀ L h l) (hm : (d, o) ∈ l) : News h₀ L h ((d, o) :: l) := fun p hp => (List.mem_cons.mp hp).elim (fun e => e ▸ N _ hm) (N p)
theorem five {r : Value} {D1 D2 D3 D4 D5 src L : Addr} {h₀ h : Heap} {news : Led} {o : Obj} {t1 t2 t3 t4 t5 u1 u2 u3 u4 u5 : Tok} (hr : r ∈ [Value.ref D1, .ref D2, .ref D3, .ref D4, .ref D5]) (N : News h₀ L h ((src, o) :: news))
    (m1 : (D1, pairObj 0 0 t1 u1) ∈ news) (m2 : (D2, pairObj 1 0 t2 u2) ∈ news) (m3 : (D3, pairObj (-1) 0 t3 u3) ∈ news) (m4 : (D4, pairObj 0 1 t4 u4) ∈ news) (m5 : (D5, pairObj (-3) 2 t5 u5) ∈ news)
    (l1 : src < D1) (l2 : src < D2) (l3 : src < D3) (l4 : src < D4) (l5 : src < D5) :
    ∃ (D : Addr) (x y : Int) (t u : Tok), r = .ref D ∧ News h₀ L h ((D, pairObj x y t u) :: (src, o) :: news) ∧ src < D ∧ Five x y :=
  mem5 (P := fun r => ∃ (D : Addr) (x y : Int) (t u : Tok), r = .ref D ∧ News h₀ L h ((D, pairObj x y t u) :: (src, o) :: news) ∧ src < D ∧ Five x y) hr
    ⟨_, _, _, _, _, rfl, dup N (.tail _ m1), l1, .inl ⟨rfl, rfl⟩⟩ ⟨_, _, _, _, _, rfl, dup N (.tail _ m2), l2, .inr (.inl ⟨rfl, rfl⟩)⟩ ⟨_, _, _, _, _, rfl, dup N (.tail _ m3), l3, .inr (.inr (.inl ⟨rfl, rfl⟩))⟩
    ⟨_, _, _, _, _, rfl, dup N (.tail _ m4), l4, .inr (.inr (.inr (.inl ⟨rfl, rfl⟩)))⟩ ⟨_, _, _, _, _, rfl, dup N (.tail _ m5), l5, .inr (.inr (.inr (.inr ⟨rfl, rfl⟩)))⟩
theorem ne_nan {prog : Program} {w : World} {A : Around} {E : Value → Shared → Prop} {s : Shared} {x y : Int} {Q : Value → Shared → Prop} (h : Q (.bool false) s) :
    wpAny (model prog w) A (compareOp .NotEq (.bool (decide (y = 0 ∧ x = 0))) (.bool (decide (x = 0 ∧ y = 0)))) Q E s := by
  have e : (decide (y = 0 ∧ x = 0) != decide (x = 0 ∧ y = 0)) = false := by
    by_cases h1 : y = 0 <;> by_cases h2 : x = 0 <;> simp [h1, h2]
  exact ne_bool (e.symm ▸ h)
theorem ne_inf {prog : Program} {w : World} {A : Around} {E : Value → Shared → Prop} {s : Shared} {x y : Int} {Q : Value → Shared → Prop} (h5 : Five x y) (h : Q (.bool false) s) :
    wpAny (model prog w) A (compareOp .NotEq (.bool (decide (y = 0 ∧ x ≠ 0))) (.bool (decide ((x = 1 ∧ y = 0) ∨ (x = -1 ∧ y = 0))))) Q E s := by
  have e : (decide (y = 0 ∧ x ≠ 0) != decide ((x = 1 ∧ y = 0) ∨ (x = -1 ∧ y = 0))) = false := by
    rcases h5 with ⟨rfl, rfl⟩ | ⟨rfl, rfl⟩ | ⟨rfl, rfl⟩ | ⟨rfl, rfl⟩ | ⟨rfl, rfl⟩ <;> rfl
  exact ne_bool (e.symm ▸ h)
local macro_rules | `(tactic| walk_at "compareOp NotEq bool bool") => `(tactic| (k_here; (try dsimp only); first | refine ne_nan ?_ | refine ne_inf (by assumption) ?_))
theorem trim_lit : trimS (Str.ofString " a b\n") = Str.ofString "a b" := by decide +kernel
theorem gcd_lit : ((Int.gcd (-12) 18 : Nat) : Int) = 6 := by decide +kernel
theorem pool_a {c k : Int} : 0 ≤ (if -1 - c > c then -1 - c else c) * (if decide (k ≤ if -1 - c > c then -1 - c else c) = true then 1 else 0) := by
  have h : 0 ≤ (if -1 - c > c then -1 - c else c) := by split <;> omega
  generalize (if -1 - c > c then -1 - c else c) = g at h ⊢
  split
  · omega
  · omega

local macro_rules | `(tactic| walk_at "compareOp Eq ref ref") => `(tactic| (k_here; (try dsimp only); (with_reducible show wpAny _ _ (compareOp CmpOp.Eq (Value.ref _) (Value.ref _)) _ _ _); k_dflt (refine' eq_pairs ?k1 ?k2 ?k3 ?k4 ?_; (case k1 => k_asm); (case k2 => k_mem); (case k3 => k_mem); (case k4 => ktr_units); k_whole)))

local macro_rules | `(tactic| walk_at "call ref") => `(tactic| (k_here; (try dsimp only); (with_reducible show wpAny _ _ (call (Value.ref 44) _) _ _ _); k_dflt (refine' use ((by assumption : NanC _ _ _ _ _ _ _ _ 44) _ _ _ _ _ _ ?a1) ?k1 ?k2 ?k3 ?k4 ?k5 ?kK ?kd ?ku ?_; (case k4 => k_asm); (case a1 => k_mem); (case k1 => k_asm); (case k2 => k_asm); (case k3 => k_asm); (case k5 => k_asm); (case kK => first | exact rfl | assumption); (case kd => ktr_room); (case ku => ktr_units); intro r9 n9 h9 tk9 F9 N9 ho9; (obtain ⟨e9, e9'⟩ := ho9); subst e9; subst n9)))
local macro_rules | `(tactic| walk_at "call ref") => `(tactic| (k_here; (try dsimp only); (with_reducible show wpAny _ _ (call (Value.ref 51) _) _ _ _); k_dflt (refine' use ((by assumption : InfC _ _ _ _ _ _ _ _ 51) _ _ _ _ _ _ ?a1) ?k1 ?k2 ?k3 ?k4 ?k5 ?kK ?kd ?ku ?_; (case k4 => k_asm); (case a1 => k_mem); (case k1 => k_asm); (case k2 => k_asm); (case k3 => k_asm); (case k5 => k_asm); (case kK => first | exact rfl | assumption); (case kd => ktr_room); (case ku => ktr_units); intro r9 n9 h9 tk9 F9 N9 ho9; (obtain ⟨e9, e9'⟩ := ho9); subst e9; subst n9)))
local macro_rules | `(tactic| walk_at "compareOp In ref ref") => `(tactic| (k_here; (try dsimp only); (with_reducible show wpAny _ _ (compareOp CmpOp.In (Value.ref _) (Value.ref _)) _ _ _); k_dflt (refine' in_pairs ?k1 ?k2 ?k3 ?k4 ?k5 ?k6 ?_; (case k1 => k_asm); (case k2 => k_mem); (case k3 => k_mem); (case k4 => k_mem); (case k5 => k_mem); (case k6 => ktr_units); k_whole)))
theorem bringOne {prog : Program} {w : World} {p : Program} {loose : List Str} {mean : ExcName → Option Value} {mg mb : Str → Option Value} {h h' : Heap} (_ : Top p loose mean mg mb h) (_ : (hd.heap_39 w.params).In h') : OneC prog w (hd.heap_39 w.params) p loose mean mg mb 93 := one_ok
theorem bringCd {prog : Program} {w : World} {p : Program} {loose : List Str} {mean : ExcName → Option Value} {mg mb : Str → Option Value} {h h' : Heap} (_ : Top p loose mean mg mb h) (_ : (hd.heap_39 w.params).In h') : CdC prog w (hd.heap_39 w.params) p loose mean mg mb 22 := cd_ok
theorem bringTrim {prog : Program} {w : World} {p : Program} {loose : List Str} {mean : ExcName → Option Value} {mg mb : Str → Option Value} {h h' : Heap} (_ : Top p loose mean mg mb h) (_ : (hd.heap_39 w.params).In h') : TrimC prog w (hd.heap_39 w.params) p loose mean mg mb 58 := trim_ok
theorem bringDiv {prog : Program} {w : World} {p : Program} {loose : List Str} {mean : ExcName → Option Value} {mg mb : Str → Option Value} {h h' : Heap} (_ : Top p loose mean mg mb h) (_ : (hd.heap_39 w.params).In h') : DivC prog w (hd.heap_39 w.params) p loose mean mg mb 105 := div_ok
theorem bringText {prog : Program} {w : World} {p : Program} {loose : List Str} {mean : ExcName → Option Value} {mg mb : Str → Option Value} {h h' : Heap} (_ : Top p loose mean mg mb h) (_ : (hd.heap_39 w.params).In h') : TextC prog w (hd.heap_39 w.params) p loose mean mg mb 110 := text_ok
theorem bringDigits {prog : Program} {w : World} {p : Program} {loose : List Str} {mean : ExcName → Option Value} {mg mb : Str → Option Value} {h h' : Heap} (_ : Top p loose mean mg mb h) (_ : (hd.heap_39 w.params).In h') : DigitsC prog w (hd.heap_39 w.params) p loose mean mg mb 115 := digits_ok
theorem bringGreat {prog : Program} {w : World} {p : Program} {loose : List Str} {mean : ExcName → Option Value} {mg mb : Str → Option Value} {h h' : Heap} (_ : Top p loose mean mg mb h) (_ : (hd.heap_39 w.params).In h') : GreatC prog w (hd.heap_39 w.params) p loose mean mg mb 122 := great_ok
theorem bringNan {prog : Program} {w : World} {p : Program} {loose : List Str} {mean : ExcName → Option Value} {mg mb : Str → Option Value} {h h' : Heap} (_ : Top p loose mean mg mb h) (_ : (hd.heap_39 w.params).In h') : NanC prog w (hd.heap_39 w.params) p loose mean mg mb 44 := nan_ok
theorem bringInf {prog : Program} {w : World} {p : Program} {loose : List Str} {mean : ExcName → Option Value} {mg mb : Str → Option Value} {h h' : Heap} (_ : Top p loose mean mg mb h) (_ : (hd.heap_39 w.params).In h') : InfC prog w (hd.heap_39 w.params) p loose mean mg mb 51 := inf_ok
set_option maxHeartbeats 2000000 in
theorem law_ok : PySem.Challenge.rw_xm0652_01.Holds := hd (by
  k_go0
  (all_goals try k_fold)
  (rename Top _ _ _ _ _ _ => T9)
  (rename Frag.In _ _ => X9)
  have hOne := bringOne (prog := PySem.Challenge.rw_xm0652_01.row.prog) T9 X9
  have hCd := bringCd (prog := PySem.Challenge.rw_xm0652_01.row.prog) T9 X9
  have hTrim := bringTrim (prog := PySem.Challenge.rw_xm0652_01.row.prog) T9 X9
  have hDiv := bringDiv (prog := PySem.Challenge.rw_xm0652_01.row.prog) T9 X9
  have hText := bringText (prog := PySem.Challenge.rw_xm0652_01.row.prog) T9 X9
  have hDigits := bringDigits (prog := PySem.Challenge.rw_xm0652_01.row.prog) T9 X9
  have hGreat := bringGreat (prog := PySem.Challenge.rw_xm0652_01.row.prog) T9 X9
  have hNan := bringNan (prog := PySem.Challenge.rw_xm0652_01.row.prog) T9 X9
  have hInf := bringInf (prog := PySem.Challenge.rw_xm0652_01.row.prog) T9 X9
  w_top off
  k_with_none
  repeat' (first
    | (k_here; (with_reducible show wpAny _ _ (call (Value.ref 122) _) _ _ _); k_dflt (refine' use ((by assumption : GreatC _ _ _ _ _ _ _ _ 122) _ _ _ _ _ _ _ ?a1v6 ?a2v6 ?a3v6 ?a4v6) ?k1v6 ?k2v6 ?k3v6 (Pull.news ?xmpv6 ?k4v6) ?k5v6 ?kKv6 ?kdv6 ?kuv6 ?_; (case k4v6 => k_asm); (case xmpv6 => walk_at "xm_pull"); (case k1v6 => k_asm); (case k2v6 => k_asm); (case k3v6 => k_asm); (case k5v6 => k_asm); (case kKv6 => first | exact rfl | assumption); (case kdv6 => ktr_room); (case kuv6 => ktr_units); (case a1v6 => first | assumption | exact pool_a); (case a2v6 => first | assumption | exact (fmod_rng (by decide)).1); (case a3v6 => first | assumption | exact (fmod_rng (by decide)).2); (case a4v6 => (show ∀ p ∈ _, Prod.fst p ≠ _); walk_at "xm_off"); intro r9 n9 h9 tk9 F9 N9 ho9; (obtain ⟨e9, a9, b9, ta9, tb9, m9, a1, a2, a3, e9'⟩ := ho9); subst e9; subst n9)) | (k_here; (with_reducible show wpAny _ _ (call (Value.ref 115) _) _ _ _); k_dflt (refine' use ((by assumption : DigitsC _ _ _ _ _ _ _ _ 115) _ _ _ _ _ _ _ ?a1v5 ?a2v5 ?a3v5 ?a4v5) ?k1v5 ?k2v5 ?k3v5 (Pull.news ?xmpv5 ?k4v5) ?k5v5 ?kKv5 ?kdv5 ?kuv5 ?_; (case k4v5 => k_asm); (case xmpv5 => walk_at "xm_pull"); (case k1v5 => k_asm); (case k2v5 => k_asm); (case k3v5 => k_asm); (case k5v5 => k_asm); (case kKv5 => first | exact rfl | assumption); (case kdv5 => ktr_room); (case kuv5 => ktr_units); (case a1v5 => first | assumption | exact pool_a); (case a2v5 => first | assumption | exact (fmod_rng (by decide)).1); (case a3v5 => first | assumption | exact (fmod_rng (by decide)).2); (case a4v5 => (show ∀ p ∈ _, Prod.fst p ≠ _); walk_at "xm_off"); intro r9 n9 h9 tk9 F9 N9 ho9; (obtain ⟨e9, a9, b9, ta9, tb9, m9, a1, a2, a3, e9'⟩ := ho9); subst e9; subst n9)) | (k_here; (with_reducible show wpAny _ _ (call (Value.ref 110) _) _ _ _); k_dflt (refine' use ((by assumption : TextC _ _ _ _ _ _ _ _ 110) _ _ _ _ _ _ _ ?a1v4 ?a2v4 ?a3v4 ?a4v4) ?k1v4 ?k2v4 ?k3v4 (Pull.news ?xmpv4 ?k4v4) ?k5v4 ?kKv4 ?kdv4 ?kuv4 ?_; (case k4v4 => k_asm); (case xmpv4 => walk_at "xm_pull"); (case k1v4 => k_asm); (case k2v4 => k_asm); (case k3v4 => k_asm); (case k5v4 => k_asm); (case kKv4 => first | exact rfl | assumption); (case kdv4 => ktr_room); (case kuv4 => ktr_units); (case a1v4 => first | assumption | exact pool_a); (case a2v4 => first | assumption | exact (fmod_rng (by decide)).1); (case a3v4 => first | assumption | exact (fmod_rng (by decide)).2); (case a4v4 => (show ∀ p ∈ _, Prod.fst p ≠ _); walk_at "xm_off"); intro r9 n9 h9 tk9 F9 N9 ho9; (obtain ⟨e9, a9, b9, ta9, tb9, m9, a1, a2, a3, e9'⟩ := ho9); subst e9; subst n9)) | (k_here; (with_reducible show wpAny _ _ (call (Value.ref 105) _) _ _ _); k_dflt (refine' use ((by assumption : DivC _ _ _ _ _ _ _ _ 105) _ _ _ _ _ _ _ ?a1v3 ?a2v3 ?a3v3 ?a4v3) ?k1v3 ?k2v3 ?k3v3 (Pull.news ?xmpv3 ?k4v3) ?k5v3 ?kKv3 ?kdv3 ?kuv3 ?_; (case k4v3 => k_asm); (case xmpv3 => walk_at "xm_pull"); (case k1v3 => k_asm); (case k2v3 => k_asm); (case k3v3 => k_asm); (case k5v3 => k_asm); (case kKv3 => first | exact rfl | assumption); (case kdv3 => ktr_room); (case kuv3 => ktr_units); (case a1v3 => first | assumption | exact pool_a); (case a2v3 => first | assumption | exact (fmod_rng (by decide)).1); (case a3v3 => first | assumption | exact (fmod_rng (by decide)).2); (case a4v3 => (show ∀ p ∈ _, Prod.fst p ≠ _); walk_at "xm_off"); intro r9 n9 h9 tk9 F9 N9 ho9; (obtain ⟨e9, a9, b9, ta9, tb9, m9, a1, a2, a3, e9'⟩ := ho9); subst e9; subst n9)) | (k_here; (with_reducible show wpAny _ _ (call (Value.ref 22) _) _ _ _); k_dflt (refine' use ((by assumption : CdC _ _ _ _ _ _ _ _ 22) _ _ _ _ _ ?a1v2) ?k1v2 ?k2v2 ?k3v2 ?k4v2 ?k5v2 ?kKv2 ?kdv2 ?kuv2 ?_; (case k1v2 => k_asm); (case k2v2 => k_asm); (case k3v2 => k_asm); (case k4v2 => k_asm); (case k5v2 => k_asm); (case kKv2 => first | exact rfl | assumption); (case kdv2 => ktr_room); (case kuv2 => ktr_units); (case a1v2 => decide); intro r9 n9 h9 tk9 F9 N9 ho9; (obtain ⟨t9, e9, e9'⟩ := ho9); rw [gcd_lit] at e9; subst e9; subst n9)) | (k_here; (with_reducible show wpAny _ _ (call (Value.ref 58) _) _ _ _); k_dflt (refine' use ((by assumption : TrimC _ _ _ _ _ _ _ _ 58) _ _ _ ?a1v1) ?k1v1 ?k2v1 ?k3v1 ?k4v1 ?k5v1 ?kKv1 ?kdv1 ?kuv1 ?_; (case k1v1 => k_asm); (case k2v1 => k_asm); (case k3v1 => k_asm); (case k4v1 => k_asm); (case k5v1 => k_asm); (case kKv1 => first | exact rfl | assumption); (case kdv1 => ktr_room); (case kuv1 => ktr_units); (case a1v1 => decide +kernel); intro r9 n9 h9 tk9 F9 N9 ho9; (obtain ⟨t9, e9, e9'⟩ := ho9); rw [trim_lit] at e9; subst e9; subst n9)) | (k_here; (with_reducible show wpAny _ _ (call (Value.ref 93) _) _ _ _); k_dflt (refine' use ((by assumption : OneC _ _ _ _ _ _ _ _ 93) _ _ _ _ _ _ _ _ _ _ ?a1v0 ?a2v0 ?a3v0 ?a4v0 ?a5v0 ?a6v0) ?k1v0 ?k2v0 ?k3v0 (pull2 ?k4v0 ?xmpv0 ?xmqv0) ?k5v0 ?kKv0 ?kdv0 ?kuv0 ?_; (case k4v0 => k_asm); (case xmpv0 => walk_at "xm_pull"); (case xmqv0 => walk_at "xm_pull"); (case k1v0 => k_asm); (case k2v0 => k_asm); (case k3v0 => k_asm); (case k5v0 => k_asm); (case kKv0 => first | exact rfl | assumption); (case kdv0 => ktr_room); (case kuv0 => ktr_units); (case a1v0 => assumption); (case a2v0 => assumption); (case a3v0 => assumption); (case a4v0 => exact Nat.succ_pos _); (case a5v0 => exact Nat.le_of_ble_eq_true rfl); (case a6v0 => (show ∀ p ∈ _, Prod.fst p ≠ _); walk_at "xm_off"); intro r9 n9 h9 tk9 F9 N9 ho9; (obtain ⟨hr9, a9, b9, ta9, tb9, m9, a1, a2, a3, e9'⟩ := ho9); subst n9; (first | ((obtain ⟨x9, t9, e9, hx9⟩ := mem3 hr9); clear hr9; subst e9) | ((obtain ⟨x9, t9, e9, hx9⟩ := mem2 hr9); clear hr9; subst e9) | ((obtain ⟨D9, x9, y9, tx9, ty9, e9, N9', hl9, hf9⟩ := five hr9 N9 (by k_mem) (by k_mem) (by k_mem) (by k_mem) (by k_mem) (by (show @LT.lt Nat _ _ _); omega) (by (show @LT.lt Nat _ _ _); omega) (by (show @LT.lt Nat _ _ _); omega) (by (show @LT.lt Nat _ _ _); omega) (by (show @LT.lt Nat _ _ _); omega)); clear hr9; subst e9; clear N9))))
    | (with_reducible exact intEnd)
    | ((with_reducible show GoodW _ _ _ _ _ _ _); (rename Fr _ _ _ _ => kF); first | exact good_true kF (by assumption) rfl | exact good_not kF (by assumption) rfl (by assumption))
    | (dsimp only; (with_reducible show GoodW _ _ _ _ _ _ _); (rename Fr _ _ _ _ => kF); first | exact good_true kF (by assumption) rfl | exact good_not kF (by assumption) rfl (by assumption))
    | walk1 | (k_unfold; (try dsimp only)) | (dsimp only; walk1) | (leave1; walk_say "STEP leave1"; (try dsimp only)) | fail "no step"))
end
end Mine
theorem PySem.Challenge.cw_xm0652_01_holds : PySem.Challenge.rw_xm0652_01.Holds := by
  exact Mine.law_ok
