import PyProof.Rows.All
import Wide.All
import OpenK.AllK
import Wide.FinOn
import PySem.Challenge.RW_pq0675_01
open PySem PySem.W PyProof.Rows
set_option Elab.async false
namespace Mine
set_option maxRecDepth 100000
set_option maxHeartbeats 8000000
open_top hd for PySem.Challenge.rw_pq0675_01
end Mine
namespace Mine
def digitOf (o : Int) : Int := if 48 ≤ o ∧ o ≤ 57 then o - 48 else if 97 ≤ o ∧ o ≤ 122 then o - 87 else if 65 ≤ o ∧ o ≤ 90 then o - 55 else -1
def wrapF (n w : Int) : Int := if n % 2 ^ w.toNat ≥ 2 ^ (w - 1).toNat then n % 2 ^ w.toNat - 2 ^ w.toNat else n % 2 ^ w.toNat
set_option maxRecDepth 100000 in
set_option maxHeartbeats 8000000 in
theorem digit_of_ok (w : World) (p : Program) (loose : List Str) (mean : ExcName → Option Value) (mg mb : Str → Option Value) (news : List (Addr × Obj)) (v : Int) (tv : Tok) :
    CbClaim PySem.Challenge.rw_pq0675_01.row.prog w (Mine.hd.heap_39 w.params) p loose mean mg mb 78 news [] True [.int v tv] (fun t => .int (digitOf v) t) := by
  w_top off; k_with_none; k_fill
  dsimp only [CbClaim, CbLists, CbRet]; intros; rename_i hret
  refine wpAny_call ?_
  k_dflt cell_enter
  k_steps
  all_goals (refine cb_retI hret ?_ (by assumption) (by assumption); unfold digitOf; (repeat' split) <;> omega)

set_option maxRecDepth 100000 in
set_option maxHeartbeats 8000000 in
theorem wrap_ok (w : World) (p : Program) (loose : List Str) (mean : ExcName → Option Value) (mg mb : Str → Option Value) (news : List (Addr × Obj)) (n : Int) (tn : Tok) (k : Int) (tk : Tok) :
    CbClaim PySem.Challenge.rw_pq0675_01.row.prog w (Mine.hd.heap_39 w.params) p loose mean mg mb 64 news [] (1 ≤ k ∧ k ≤ 70) [.int n tn, .int k tk] (fun t => .int (wrapF n k) t) := by
  w_top off; k_with_none; k_fill
  dsimp only [CbClaim, CbLists, CbRet]; intros; rename_i hk _ _ hret
  obtain ⟨hk0, hk1⟩ := hk
  refine wpAny_call ?_
  k_dflt cell_enter
  k_steps
  all_goals (refine cb_retI hret ?_ (by assumption) (by assumption); unfold wrapF; simp only [Int.one_mul, kbt_mask] at *; split <;> omega)

set_option maxRecDepth 100000 in
set_option maxHeartbeats 8000000 in
theorem brought_ok (w : World) (p : Program) (loose : List Str) (mean : ExcName → Option Value) (mg mb : Str → Option Value) (news : List (Addr × Obj)) (n : Int) (tn : Tok) (k : Int) (tk : Tok) :
    CbClaim PySem.Challenge.rw_pq0675_01.row.prog w (Mine.hd.heap_39 w.params) p loose mean mg mb 120 news [] (1 ≤ k ∧ k ≤ 70) [.int n tn, .int k tk] (fun t => .int (wrapF n k) t) := by
  w_top off; k_with_none; k_fill
  dsimp only [CbClaim, CbLists, CbRet]; intros; rename_i hk _ _ hret
  obtain ⟨hk0, hk1⟩ := hk
  refine wpAny_call ?_
  k_dflt cell_enter
  k_steps
  all_goals (refine cb_retI hret ?_ (by assumption) (by assumption); unfold wrapF; simp only [Int.fmod_eq_emod_of_nonneg _ (Int.le_of_lt (kbt_pos _))] at *; split <;> omega)
end Mine
namespace Mine
noncomputable def readGo (base : Int) (w : Nat) : List Int → Int → Int → Int × Int
  | [], f, a => (f, a)
  | o :: r, f, a => if digitOf o < 0 ∨ base ≤ digitOf o then (f, a) else readGo base w r ((f * base + digitOf o) % 2 ^ w) (a + 1)
theorem readGo_end {base : Int} {w : Nat} {ks : List Int} {f a : Int} (h0 : 0 ≤ a) (h : ¬ a < ks.length) : readGo base w (ks.drop a.toNat) f a = (f, a) := by
  rw [List.drop_eq_nil_of_le (by omega)]; rfl
theorem readGo_step {base : Int} {w : Nat} {ks : List Int} {f a : Int} (h0 : 0 ≤ a) (h : a < ks.length) :
    readGo base w (ks.drop a.toNat) f a = if digitOf (ks.getD a.toNat 0) < 0 ∨ base ≤ digitOf (ks.getD a.toNat 0) then (f, a) else readGo base w (ks.drop (a + 1).toNat) ((f * base + digitOf (ks.getD a.toNat 0)) % 2 ^ w) (a + 1) := by
  have hl : a.toNat < ks.length := by omega
  have e : (a + 1).toNat = a.toNat + 1 := by omega
  rw [List.drop_eq_getElem_cons hl, e, List.getD_eq_getElem?_getD, List.getElem?_eq_getElem hl]
  rfl
abbrev pairObj (x y : Int) (t u : Tok) : Obj := { cls := .type "tuple", data := .seq [Value.int x t, Value.int y u].toArray }

section
variable {w : World} {p : Program} {loose : List Str} {mean : ExcName → Option Value} {mg mb : Str → Option Value}
  {dp un : Nat} {gd : Option (List Code)} {cn : Str} {cs : Scope} {a : Addr} {ccd : Value} {cl : List (Str × Addr)} {outer : List Env} {A₀ : Around} {base₀ h₀ : Heap} {L : Addr} {m : Str → Option Value} {news : List (Addr × Obj)} {s : Shared} {Q E : Value → Shared → Prop}
theorem digit_use {v : Int} {tv : Tok} (B : Below A₀ base₀ outer h₀) (F : Fr h₀ L s.heap m) (X : (Mine.hd.heap_39 w.params).In h₀) (N : News h₀ L s.heap news) (T : Top p loose mean mg mb h₀) (hk : cs.kind = .function) (hd : dp + 1 < recursionLimit) (hu : un + 8 < cLine)
    (ret : ∀ t h' tk', Fr h₀ L h' m → News h₀ L h' news → Q (.int (digitOf v) t) { s with heap := h', toks := tk' }) :
    wpAny (model PySem.Challenge.rw_pq0675_01.row.prog w) (ktrTop dp un gd cn cs L a ccd cl outer) (call (.ref 78) [.int v tv]) Q E s :=
  digit_of_ok w p loose mean mg mb news v tv _ _ _ _ _ _ _ _ _ _ _ _ _ _ _ _ _ B F X N T hk trivial hd hu ret
end

def WEnd {σ : Type} (h₀ : Heap) (L : Addr) (s : Shared) (Led : σ → List (Addr × Obj)) (ps : σ → List (Str × Value)) (stored : List Str) (m₀ : Str → Option Value) (P : σ → Prop) (μ : σ → Nat) (c : σ) (s₂ : Shared) : Prop :=
  KswEnd h₀ L s Led ps (fun _ => True) stored m₀ P μ c s₂
def WPost (Q : Flow → Shared → Prop) (End : Shared → Prop) (f : Flow) (s : Shared) : Prop :=
  match f with
  | .ret v => Q (.ret v) s
  | .brk => Q .next s
  | _ => End s
theorem my_while {prog : Program} {w : World} {A : Around} {E : Value → Shared → Prop} {Q : Flow → Shared → Prop} {s : Shared} {env : Env} {h₀ : Heap} {L : Addr} {σ : Type} {test : PySem.Expr} {body : List Stmt} {pos : Pos} {m₀ : Str → Option Value} {news : List (Addr × Obj)} (Led : σ → List (Addr × Obj)) (ps : σ → List (Str × Value)) (stored : List Str) (P : σ → Prop) (μ : σ → Nat) (c₀ : σ)
    (F : Fr h₀ L s.heap m₀) (N : News h₀ L s.heap news) (hn : ∀ p ∈ Led c₀, p ∈ news) (hk : ∀ p ∈ ps c₀, m₀ p.1 = some p.2) (hp : P c₀)
    (turn : ∀ (c : σ) (u : Str → Option Value) h tk, P c → Fr h₀ L h (kstB (fun z => if stored.contains z then u z else m₀ z) (ps c)) → News h₀ L h (Led c) →
      wpAny (model prog w) A (isTrue test env (eval test env)) (fun b s₂ =>
        if b = true then wpAny (model prog w) A (execs body env) (WPost Q (WEnd h₀ L s Led ps stored m₀ P μ c)) E s₂ else Q .next s₂) E { s with heap := h, toks := tk })
    (hE : PassesOwn (model prog w) A env E := by passes_own) :
    wpAny (model prog w) A (exec (.While test body [] pos) env) Q E s := by
  refine ksw_while Led ps (fun _ => True) stored P μ c₀ F (fun p hp => N p (hn p hp)) trivial hk hp (fun c u h tk _ hp F1 N1 => ?_) hE
  refine wpAny_mono (turn c u h tk hp F1 N1) (fun b s₂ q => ?_) fun _ _ x => x
  cases b with
  | false => simpa using q
  | true =>
    simp only [if_true] at q ⊢
    refine wpAny_mono q (fun f s₃ q => ?_) fun _ _ x => x
    cases f with
    | ret v => exact q
    | brk => exact q
    | next => exact q
    | cont => exact q
theorem my_end {σ : Type} {h₀ : Heap} {L : Addr} {s : Shared} {Led : σ → List (Addr × Obj)} {ps : σ → List (Str × Value)} {stored : List Str} {m₀ m' : Str → Option Value} {P : σ → Prop} {μ : σ → Nat} {c : σ} {h' : Heap} {tk : Nat} {news' : List (Addr × Obj)} (c' : σ)
    (F : Fr h₀ L h' m') (N : News h₀ L h' news') (hn : ∀ p ∈ Led c', p ∈ news') (hk : ∀ p ∈ ps c', m' p.1 = some p.2) (hr : ∀ z, (∀ p ∈ ps c', z ≠ p.1) → stored.contains z = false → m' z = m₀ z) (hp : P c') (hm : μ c' < μ c) :
    WEnd h₀ L s Led ps stored m₀ P μ c { s with heap := h', toks := tk } := ksw_end c' F N hn trivial hk hr hp hm
local macro_rules | `(tactic| walk_at "WPost") => `(tactic| (dsimp only [WPost]))
local macro_rules | `(tactic| walk_at "call ref") => `(tactic| (k_here; (with_reducible show wpAny _ _ (call (Value.ref 78) _) _ _ _); k_dflt (refine' digit_use ?k1 ?k2 ?k3 ?k4 ?k5 ?kK ?kd ?ku ?_; (case k1 => k_asm); (case k2 => k_asm); (case k3 => k_asm); (case k4 => k_asm); (case k5 => k_asm); (case kK => first | exact rfl | assumption); (case kd => ktr_room); (case ku => ktr_units); intro t9 h9 tk9 F9 N9; (try dsimp only); (try k_fold))))

set_option maxRecDepth 100000 in
set_option maxHeartbeats 8000000 in
theorem read_ok (w : World) (p : Program) (loose : List Str) (mean : ExcName → Option Value) (mg mb : Str → Option Value) (news : List (Addr × Obj)) (b : Array UInt8) (tb : Tok) (ks : List Int) (hks : KBw.bInts b = ks) (hlen : ks.length ≤ 1000)
    (a₀ : Int) (ta : Tok) (base : Int) (tbs : Tok) (width : Int) (tw : Tok) (hb0 : 2 ≤ base) (hb1 : base ≤ 36) (hw0 : 1 ≤ width) (hw1 : width ≤ 70) (ha0 : 0 ≤ a₀) (ha1 : a₀ ≤ ks.length)
    (dp un : Nat) (gd : Option (List Code)) (cn : Str) (cs : Scope) (a : Addr) (ccd : Value) (cl : List (Str × Addr)) (outer : List Env) (A₀ : Around) (base₀ h₀ : Heap) (L : Addr) (m : Str → Option Value) (s : Shared) (Q E : Value → Shared → Prop)
    (B : Below A₀ base₀ outer h₀) (F : Fr h₀ L s.heap m) (X : (Mine.hd.heap_39 w.params).In h₀) (N : News h₀ L s.heap news) (T : Top p loose mean mg mb h₀) (hk : cs.kind = .function) (hd : dp + 2 < recursionLimit) (hu : un + 64 < cLine)
    (ret : ∀ x t u h' tk', Fr h₀ L h' m → News h₀ L h' ((x, pairObj (readGo base width.toNat (ks.drop a₀.toNat) 0 a₀).1 (readGo base width.toNat (ks.drop a₀.toNat) 0 a₀).2 t u) :: news) → (∀ q ∈ news, q.1 < x) → Q (.ref x) { s with heap := h', toks := tk' }) :
    wpAny (model PySem.Challenge.rw_pq0675_01.row.prog w) (ktrTop dp un gd cn cs L a ccd cl outer) (call (.ref 85) [.bytes b tb, .int a₀ ta, .int base tbs, .int width tw]) Q E s := by
  w_top off; k_with_none; revert X; k_fill; intro X
  k_with "exec While Compare cons nil" => (
    (rename Fr _ _ _ _ => lF'); (rename News _ _ _ _ => lN')
    (refine' my_while (σ := Int × Int × Tok × Tok) (fun _ => news) (fun c => [(Str.ofString "found", Value.int c.1 c.2.2.1), (Str.ofString "at", Value.int c.2.1 c.2.2.2)]) [Str.ofString "digit"]
      (fun c => 0 ≤ c.2.1 ∧ c.2.1 ≤ ks.length ∧ 0 ≤ c.1 ∧ readGo base width.toNat (ks.drop c.2.1.toNat) c.1 c.2.1 = readGo base width.toNat (ks.drop a₀.toNat) 0 a₀) (fun c => (ks.length - c.2.1).toNat) (0, a₀, _, _) lF' lN' ?kn ?kk ?kp ?_)
    (case kn => exact fun p hp => .tail _ hp)
    (case kk => kst_all)
    (case kp => exact ⟨ha0, ha1, Int.le_refl 0, rfl⟩)
    clear lF' lN'
    (rintro ⟨f, i, tf, ti⟩ u h tk ⟨i0, i1, f0, hR⟩ F1 N1)
    (dsimp only [kstB] at F1; dsimp only at i0 i1 f0 hR))
  refine wpAny_call ?_
  k_dflt cell_enter
  k_steps
  all_goals first
    | (refine my_end (_, _, _, _) (by assumption) (by assumption) (fun p hp => hp) (by kst_all) (by ksw_same) ?_ ?_
       · dsimp only
         refine ⟨by omega, by omega, ?_, ?_⟩
         · rw [Int.one_mul, kbt_mask]
           exact Int.emod_nonneg _ (Int.ne_of_gt (kbt_pos _))
         · rw [Int.one_mul, kbt_mask, ← hR, readGo_step i0 (by assumption), if_neg (by omega)]
       · dsimp only
         omega)
    | (have hE : readGo base width.toNat (ks.drop a₀.toNat) 0 a₀ = (f, i) := by
         rw [← hR]
         first
           | (rw [readGo_step i0 (by assumption), if_pos (by omega)])
           | (rw [readGo_end i0 (by assumption)])
       rw [hE] at ret
       exact ret _ _ _ _ _ (by assumption) (by assumption) (by assumption))
end Mine
namespace Mine
theorem any_bytes {b : Array UInt8} {i : Int} (h0 : 0 ≤ i) (h1 : i < 256) : b.contains i.toNat.toUInt8 = (KBw.bInts b).any (· == i) := by
  have e : ((i.toNat.toUInt8.toNat : Nat) : Int) = i := byte_back h0 h1
  have key : ∀ c : UInt8, (c == i.toNat.toUInt8) = ((c.toNat : Int) == i) := by
    intro c
    rw [Bool.eq_iff_iff, beq_iff_eq, beq_iff_eq]
    constructor
    · intro h; rw [h]; exact e
    · intro h; exact UInt8.toNat_inj.mp (by omega)
  obtain ⟨l⟩ := b
  rw [KBw.ints_list]
  simp only [List.contains_toArray]
  induction l with
  | nil => rfl
  | cons c r ih => 
    rw [List.contains_cons, List.map_cons, List.any_cons, ih, ← key c]
    congr 1
    exact BEq.comm
open Builtin in
theorem gives_bytes_contains (b : Array UInt8) (i : Int) (t u : Tok) (h0 : 0 ≤ i) (h1 : i < 256) : Gives («bytes.__contains__» ⟨[.bytes b t, .int i u], []⟩) (.val (.bool (b.contains i.toNat.toUInt8))) := by
  refine .of_wp fun M A E s Q hq => ?_
  show wpAny M A (Bytes.containsIn "bytes.__contains__" (.bytes b t) (.int i u) >>= fun r => _) _ E s
  refine wpAny_bind ?_
  unfold Bytes.containsIn
  refine wpAny_bind (wpAny_attempt ?_)
  refine wpAny_of_eq (a := i) rfl ?_
  refine wpAny_bind ?_
  rw [KBy.buffer_eq]
  refine wpAny_pure ?_
  dsimp only
  rw [if_neg (by simp; omega)]
  exact wpAny_pure (wpAny_pure ⟨_, rfl, hq⟩)
section
variable {prog : Program} {w : World} {A : Around} {E : Value → Shared → Prop} {s : Shared} {b : Array UInt8} {t u : Tok} {ks : List Int} {i : Int}
theorem in_bytes {Q : Value → Shared → Prop} (hk : KBw.bInts b = ks) (h0 : 0 ≤ i) (h1 : i < 256) (h : Q (.bool (ks.any (· == i))) s) : wpAny (model prog w) A (compareOp .In (.int i u) (.bytes b t)) Q E s := by
  refine in_gives (typeIs_bytes s b t) FB.slot_bytes_contains FB.entry_bytes_contains (FB.args_bytes_contains_2 _ _) (gives_bytes_contains b i t u h0 h1) ?_
  rw [any_bytes h0 h1, hk]
  exact h
end
def isBlank (o : Int) : Bool := [32, 9, 10, 11, 12, 13].any (· == o)
local macro_rules | `(tactic| walk_at "compareOp In int bytes") => `(tactic| (k_here; (with_reducible show wpAny _ _ (compareOp CmpOp.In (Value.int _ _) (Value.bytes _ _)) _ _ _); refine in_bytes (KBw.ints_list _) (by omega) (by omega) ?_))
set_option maxRecDepth 100000 in
set_option maxHeartbeats 8000000 in
theorem is_blank_ok (w : World) (p : Program) (loose : List Str) (mean : ExcName → Option Value) (mg mb : Str → Option Value) (news : List (Addr × Obj)) (v : Int) (tv : Tok) :
    CbClaim PySem.Challenge.rw_pq0675_01.row.prog w (Mine.hd.heap_39 w.params) p loose mean mg mb 71 news [] (0 ≤ v ∧ v < 256) [.int v tv] (fun t => .bool (isBlank v)) := by
  w_top off; k_with_none; k_fill
  dsimp only [CbClaim, CbLists, CbRet]; intros; rename_i hv _ _ hret
  obtain ⟨hv0, hv1⟩ := hv
  refine wpAny_call ?_
  k_dflt cell_enter
  k_steps
  all_goals (refine cb_retB hret ?_ (by assumption) (by assumption); rfl)
end Mine
namespace Mine
section
variable {w : World} {p : Program} {loose : List Str} {mean : ExcName → Option Value} {mg mb : Str → Option Value}
  {dp un : Nat} {gd : Option (List Code)} {cn : Str} {cs : Scope} {a : Addr} {ccd : Value} {cl : List (Str × Addr)} {outer : List Env} {A₀ : Around} {base₀ h₀ : Heap} {L : Addr} {m : Str → Option Value} {news : List (Addr × Obj)} {s : Shared} {Q E : Value → Shared → Prop}
theorem blank_use {v : Int} {tv : Tok} (B : Below A₀ base₀ outer h₀) (F : Fr h₀ L s.heap m) (X : (Mine.hd.heap_39 w.params).In h₀) (N : News h₀ L s.heap news) (T : Top p loose mean mg mb h₀) (hk : cs.kind = .function) (h0 : 0 ≤ v) (h1 : v < 256) (hd : dp + 1 < recursionLimit) (hu : un + 8 < cLine)
    (ret : ∀ h' tk', Fr h₀ L h' m → News h₀ L h' news → Q (.bool (isBlank v)) { s with heap := h', toks := tk' }) :
    wpAny (model PySem.Challenge.rw_pq0675_01.row.prog w) (ktrTop dp un gd cn cs L a ccd cl outer) (call (.ref 71) [.int v tv]) Q E s :=
  is_blank_ok w p loose mean mg mb news v tv _ _ _ _ _ _ _ _ _ _ _ _ _ _ _ _ _ B F X N T hk ⟨h0, h1⟩ hd hu (fun _ => ret)
end
local macro_rules | `(tactic| walk_at "call ref") => `(tactic| (k_here; (with_reducible show wpAny _ _ (call (Value.ref 71) _) _ _ _); k_dflt (refine' blank_use ?k1 ?k2 ?k3 ?k4 ?k5 ?kK ?k6 ?k7 ?kd ?ku ?_; (case k1 => k_asm); (case k2 => k_asm); (case k3 => k_asm); (case k4 => k_asm); (case k5 => k_asm); (case kK => first | exact rfl | assumption); (case k6 => omega); (case k7 => omega); (case kd => ktr_room); (case ku => ktr_units); intro h9 tk9 F9 N9; (try dsimp only); (try k_fold))))
local macro_rules | `(tactic| walk_at "WPost") => `(tactic| (dsimp only [WPost]))
set_option maxRecDepth 100000 in
set_option maxHeartbeats 8000000 in
theorem skip_ok (w : World) (p : Program) (loose : List Str) (mean : ExcName → Option Value) (mg mb : Str → Option Value) (news : List (Addr × Obj)) (b : Array UInt8) (tb : Tok) (ks : List Int) (hks : KBw.bInts b = ks) (hlen : ks.length ≤ 1000)
    (a₀ : Int) (ta : Tok) (ha0 : 0 ≤ a₀) (ha1 : a₀ ≤ ks.length) (hno : a₀ < ks.length → isBlank (ks.getD a₀.toNat 0) = false)
    (dp un : Nat) (gd : Option (List Code)) (cn : Str) (cs : Scope) (a : Addr) (ccd : Value) (cl : List (Str × Addr)) (outer : List Env) (A₀ : Around) (base₀ h₀ : Heap) (L : Addr) (m : Str → Option Value) (s : Shared) (Q E : Value → Shared → Prop)
    (B : Below A₀ base₀ outer h₀) (F : Fr h₀ L s.heap m) (X : (Mine.hd.heap_39 w.params).In h₀) (N : News h₀ L s.heap news) (T : Top p loose mean mg mb h₀) (hk : cs.kind = .function) (hd : dp + 2 < recursionLimit) (hu : un + 64 < cLine)
    (ret : ∀ t h' tk', Fr h₀ L h' m → News h₀ L h' news → Q (.int a₀ t) { s with heap := h', toks := tk' }) :
    wpAny (model PySem.Challenge.rw_pq0675_01.row.prog w) (ktrTop dp un gd cn cs L a ccd cl outer) (call (.ref 92) [.bytes b tb, .int a₀ ta]) Q E s := by
  w_top off; k_with_none; revert X; k_fill; intro X
  k_with "exec While BoolOp" => (
    (rename Fr _ _ _ _ => lF'); (rename News _ _ _ _ => lN')
    (refine' my_while (σ := Unit) (fun _ => news) (fun _ => []) [] (fun _ => True) (fun _ => 0) () lF' lN' ?kn ?kk trivial ?_)
    (case kn => exact fun p hp => hp)
    (case kk => exact fun p hp => nomatch hp)
    clear lF' lN'
    (rintro ⟨⟩ u h tk - F1 N1)
    (dsimp only [kstB] at F1))
  refine wpAny_call ?_
  k_dflt cell_enter
  k_steps
  all_goals first
    | exact ret _ _ _ (by assumption) (by assumption)
    | (exfalso
       have h1 := hno (by assumption)
       rename isBlank _ = true => h2
       rw [h1] at h2
       cases h2)
end Mine
namespace Mine
section
variable {w : World} {p : Program} {loose : List Str} {mean : ExcName → Option Value} {mg mb : Str → Option Value}
  {dp un : Nat} {gd : Option (List Code)} {cn : Str} {cs : Scope} {a : Addr} {ccd : Value} {cl : List (Str × Addr)} {outer : List Env} {A₀ : Around} {base₀ h₀ : Heap} {L : Addr} {m : Str → Option Value} {news : List (Addr × Obj)} {s : Shared} {Q E : Value → Shared → Prop}
  {b : Array UInt8} {tb : Tok} {ks : List Int}
theorem skip_use {a₀ : Int} {ta : Tok} (B : Below A₀ base₀ outer h₀) (F : Fr h₀ L s.heap m) (X : (Mine.hd.heap_39 w.params).In h₀) (N : News h₀ L s.heap news) (T : Top p loose mean mg mb h₀) (hk : cs.kind = .function) (hks : KBw.bInts b = ks) (hlen : ks.length ≤ 1000) (ha0 : 0 ≤ a₀) (ha1 : a₀ ≤ ks.length) (hno : a₀ < ks.length → isBlank (ks.getD a₀.toNat 0) = false) (hd : dp + 2 < recursionLimit) (hu : un + 64 < cLine)
    (ret : ∀ t h' tk', Fr h₀ L h' m → News h₀ L h' news → Q (.int a₀ t) { s with heap := h', toks := tk' }) :
    wpAny (model PySem.Challenge.rw_pq0675_01.row.prog w) (ktrTop dp un gd cn cs L a ccd cl outer) (call (.ref 92) [.bytes b tb, .int a₀ ta]) Q E s :=
  skip_ok w p loose mean mg mb news b tb ks hks hlen a₀ ta ha0 ha1 hno dp un gd cn cs a ccd cl outer A₀ base₀ h₀ L m s Q E B F X N T hk hd hu ret
theorem read_use {a₀ base width v e : Int} {ta tbs tw : Tok} (B : Below A₀ base₀ outer h₀) (F : Fr h₀ L s.heap m) (X : (Mine.hd.heap_39 w.params).In h₀) (N : News h₀ L s.heap news) (T : Top p loose mean mg mb h₀) (hk : cs.kind = .function) (hks : KBw.bInts b = ks) (hr : readGo base width.toNat (ks.drop a₀.toNat) 0 a₀ = (v, e)) (hlen : ks.length ≤ 1000)
    (hb0 : 2 ≤ base) (hb1 : base ≤ 36) (hw0 : 1 ≤ width) (hw1 : width ≤ 70) (ha0 : 0 ≤ a₀) (ha1 : a₀ ≤ ks.length) (hd : dp + 2 < recursionLimit) (hu : un + 64 < cLine)
    (ret : ∀ x t u h' tk', Fr h₀ L h' m → News h₀ L h' ((x, ({ cls := .type "tuple", data := .seq [Value.int v t, Value.int e u].toArray } : Obj)) :: news) → (∀ q ∈ news, q.1 < x) → Q (.ref x) { s with heap := h', toks := tk' }) :
    wpAny (model PySem.Challenge.rw_pq0675_01.row.prog w) (ktrTop dp un gd cn cs L a ccd cl outer) (call (.ref 85) [.bytes b tb, .int a₀ ta, .int base tbs, .int width tw]) Q E s :=
  read_ok w p loose mean mg mb news b tb ks hks hlen a₀ ta base tbs width tw hb0 hb1 hw0 hw1 ha0 ha1 dp un gd cn cs a ccd cl outer A₀ base₀ h₀ L m s Q E B F X N T hk hd hu (by rw [hr]; exact ret)
theorem wrap_use {n k : Int} {tn tk : Tok} (B : Below A₀ base₀ outer h₀) (F : Fr h₀ L s.heap m) (X : (Mine.hd.heap_39 w.params).In h₀) (N : News h₀ L s.heap news) (T : Top p loose mean mg mb h₀) (hk : cs.kind = .function) (h0 : 1 ≤ k) (h1 : k ≤ 70) (hd : dp + 1 < recursionLimit) (hu : un + 8 < cLine)
    (ret : ∀ t h' tk', Fr h₀ L h' m → News h₀ L h' news → Q (.int (wrapF n k) t) { s with heap := h', toks := tk' }) :
    wpAny (model PySem.Challenge.rw_pq0675_01.row.prog w) (ktrTop dp un gd cn cs L a ccd cl outer) (call (.ref 64) [.int n tn, .int k tk]) Q E s :=
  wrap_ok w p loose mean mg mb news n tn k tk _ _ _ _ _ _ _ _ _ _ _ _ _ _ _ _ _ B F X N T hk ⟨h0, h1⟩ hd hu ret
end
section
variable {prog : Program} {w : World} {A : Around} {E : Value → Shared → Prop} {s : Shared} {b : Array UInt8} {t u : Tok} {ks : List Int} {i : Int} {r : Bool} {x : Addr} {items : Array Value}
theorem in_bytesR {Q : Value → Shared → Prop} (hk : KBw.bInts b = ks) (h0 : 0 ≤ i) (h1 : i < 256) (hr : ks.any (· == i) = r) (h : Q (.bool r) s) : wpAny (model prog w) A (compareOp .In (.int i u) (.bytes b t)) Q E s := in_bytes hk h0 h1 (by rw [hr]; exact h)
theorem eq_intF {k : Int} {Q : Value → Shared → Prop} (hn : i ≠ k) (h : Q (.bool false) s) : wpAny (model prog w) A (compareOp .Eq (.int i t) (.int k u)) Q E s := eq_int (by rw [beq_false_of_ne hn]; exact h)
theorem eq_intT {k : Int} {Q : Value → Shared → Prop} (hn : i = k) (h : Q (.bool true) s) : wpAny (model prog w) A (compareOp .Eq (.int i t) (.int k u)) Q E s := eq_int (by rw [hn, beq_self_eq_true]; exact h)
theorem in_tupR {Q : Value → Shared → Prop} (ht : IsTup s.heap x items) (hi : IntsAre items.toList ks) (hr : ks.any (· == i) = r) (h : Q (.bool r) s) : wpAny (model prog w) A (compareOp .In (.int i u) (.ref x)) Q E s := in_tuple_ints ht hi (by rw [hr]; exact h)
end
def isSign (o : Int) : Bool := [43, 45].any (· == o)
def isXx (o : Int) : Bool := [120, 88].any (· == o)

local macro_rules | `(tactic| walk_at "compareOp In int bytes") => `(tactic| (k_here; (with_reducible show wpAny _ _ (compareOp CmpOp.In (Value.int _ _) (Value.bytes _ _)) _ _ _); k_dflt (first | (refine' in_bytesR (KBw.ints_list _) ?k1 ?k2 ?k3 ?_; (case k1 => omega); (case k2 => omega); (case k3 => assumption)) | refine in_bytes (KBw.ints_list _) (by omega) (by omega) ?_)))
local macro_rules | `(tactic| walk_at "compareOp In int ref") => `(tactic| (k_here; (with_reducible show wpAny _ _ (compareOp CmpOp.In (Value.int _ _) (Value.ref _)) _ _ _); refine' in_tupR ?k1 ?k2 ?k3 ?_; (case k1 => exact News.isTup (by k_asm) (by k_mem)); (case k2 => repeat constructor); (case k3 => assumption)))
local macro_rules | `(tactic| walk_at "call ref") => `(tactic| (k_here; (with_reducible show wpAny _ _ (call (Value.ref 92) _) _ _ _); k_dflt (refine' skip_use ?k1 ?k2 ?k3 ?k4 ?k5 ?kK ?k6 ?k7 ?k8 ?k9 ?k0 ?kd ?ku ?_; (case k1 => k_asm); (case k2 => k_asm); (case k3 => k_asm); (case k4 => k_asm); (case k5 => k_asm); (case kK => first | exact rfl | assumption); (case k6 => assumption); (case k7 => omega); (case k8 => omega); (case k9 => omega); (case k0 => first | (intro _; assumption) | (intro h; exact absurd h (Int.lt_irrefl _))); (case kd => ktr_room); (case ku => ktr_units); intro t9 h9 tk9 F9 N9; (try dsimp only); (try k_fold))))
local macro_rules | `(tactic| walk_at "call ref") => `(tactic| (k_here; (with_reducible show wpAny _ _ (call (Value.ref 85) _) _ _ _); k_dflt (refine' read_use ?k1 ?k2 ?k3 ?k4 ?k5 ?kK ?k6 ?k7 ?k8 ?k9 ?k10 ?k11 ?k12 ?k13 ?k14 ?kd ?ku ?_; (case k1 => k_asm); (case k2 => k_asm); (case k3 => k_asm); (case k4 => k_asm); (case k5 => k_asm); (case kK => first | exact rfl | assumption); (case k6 => assumption); (case k7 => assumption); (case k8 => omega); (case k9 => omega); (case k10 => omega); (case k11 => omega); (case k12 => omega); (case k13 => omega); (case k14 => omega); (case kd => ktr_room); (case ku => ktr_units); intro x9 t9 u9 h9 tk9 F9 N9 l9; (try dsimp only); (try k_fold))))
local macro_rules | `(tactic| walk_at "call ref") => `(tactic| (k_here; (with_reducible show wpAny _ _ (call (Value.ref 64) _) _ _ _); k_dflt (refine' wrap_use ?k1 ?k2 ?k3 ?k4 ?k5 ?kK ?k6 ?k7 ?kd ?ku ?_; (case k1 => k_asm); (case k2 => k_asm); (case k3 => k_asm); (case k4 => k_asm); (case k5 => k_asm); (case kK => first | exact rfl | assumption); (case k6 => omega); (case k7 => omega); (case kd => ktr_room); (case ku => ktr_units); intro t9 h9 tk9 F9 N9; (try dsimp only); (try k_fold))))
local macro_rules | `(tactic| walk_at "compareOp Eq int int") => `(tactic| (k_here; first | (refine' eq_intF ?k1 ?_; (case k1 => omega)) | (refine' eq_intT ?k1 ?_; (case k1 => omega))))
local macro_rules | `(tactic| walk_at "eval BoolOp") => `(tactic| ((fail_if_success (rename KPfMark => hM9)); k_extra "marked"))
local macro_rules | `(tactic| walk_at "KCj") => `(tactic| (refine' kcj_end (t := 0) ?k1 rfl rfl ?k2 ?k3 ?k4; (case k2 => assumption); (case k3 => assumption); (case k4 => (intro p9 h9; (repeat (first | exact h9 | refine List.Mem.tail _ ?_)))); (case k1 => first | rfl | (symm; assumption) | (symm; rw [Bool.eq_false_iff]; assumption) | (symm; rw [decide_eq_false_iff_not]; assumption) | (symm; rw [beq_eq_false_iff_ne]; assumption))))
local macro_rules | `(tactic| walk_at "KCjDone") => `(tactic| (unfold KCjDone; intro t9 h9 tk9 F9 N9; (try dsimp only); (try k_fold)))
local macro_rules | `(tactic| walk_at "getAttr ref") => `(tactic| (k_here; k_dflt (refine' get_own ?k1 ?k2 ?k3 ?k4 ?k5 ?k6 ?k7 ?k8 ?k9 ?_; (case k1 => k_asm); (case k2 => k_asm); (case k3 => exact InstAt.of_news (by k_asm) (by (repeat (first | assumption | refine List.Mem.tail _ ?_))) (by (repeat (first | assumption | refine List.Mem.tail _ ?_)))); (case k4 => k_is); (case k5 => k_is); (case k6 => k_is); (case k7 => k_is); (case k8 => assumption); (case k9 => k_handed))))

set_option maxRecDepth 100000 in
set_option maxHeartbeats 8000000 in
theorem tib_plain (w : World) (p : Program) (loose : List Str) (mean : ExcName → Option Value) (mg mb : Str → Option Value) (news : List (Addr × Obj)) (b : Array UInt8) (tb : Tok) (ks : List Int) (hks : KBw.bInts b = ks) (hlen : ks.length ≤ 1000)
    (base : Int) (tbs : Tok) (width : Int) (tw : Tok) (hb0 : 2 ≤ base) (hb1 : base ≤ 36) (hw0 : 1 ≤ width) (hw1 : width ≤ 70)
    (lim dx : Addr) (sl : Array (Option Value)) (es : List DictEntry) (ne : Nat) (hl1 : (lim, (⟨.ref 53, some dx, .plain, sl⟩ : Obj)) ∈ news) (hl2 : (dx, dictOf es ne) ∈ news) (hget : getL (Str.ofString "width") es = some (some (.int width tw)))
    (hpos : 0 < ks.length) (v : Int) (hr : readGo base width.toNat (ks.drop (0 : Int).toNat) 0 (0 : Int) = (v, (ks.length : Int)))
    (hbl : isBlank (ks.getD (0 : Int).toNat 0) = false) (hsg : isSign (ks.getD (0 : Int).toNat 0) = false) (hx : isXx (ks.getD ((0 : Int) + 1).toNat 0) = false ∨ [0, 16].any (· == base) = false)
    (dp un : Nat) (gd : Option (List Code)) (cn : Str) (cs : Scope) (a : Addr) (ccd : Value) (cl : List (Str × Addr)) (outer : List Env) (A₀ : Around) (base₀ h₀ : Heap) (L : Addr) (m : Str → Option Value) (s : Shared) (Q E : Value → Shared → Prop)
    (B : Below A₀ base₀ outer h₀) (F : Fr h₀ L s.heap m) (X : (Mine.hd.heap_39 w.params).In h₀) (N : News h₀ L s.heap news) (T : Top p loose mean mg mb h₀) (hk : cs.kind = .function) (hd : dp + 3 < recursionLimit) (hu : un + 128 < cLine)
    (ret : ∀ t h' tk', Fr h₀ L h' m → News h₀ L h' news → Q (.int (wrapF v width) t) { s with heap := h', toks := tk' }) :
    wpAny (model PySem.Challenge.rw_pq0675_01.row.prog w) (ktrTop dp un gd cn cs L a ccd cl outer) (call (.ref 99) [.bytes b tb, .int base tbs, .ref lim]) Q E s := by
  w_top off; k_with_none; revert X; k_fill; intro X
  k_with "marked" => (
    (rename Fr _ _ _ _ => cF'); (rename News _ _ _ _ => cN')
    (refine' kcj (fun (b : Bool) (_ : Tok) => Value.bool b) (fun _ => false) cF' cN' (fun u' hM' => ?_) ?_)
    (all_goals (try k_fold)); (all_goals (try ((rename KPfMark => hM0); rcases hx with hx | hx))))
  refine wpAny_call ?_
  k_dflt cell_enter
  k_steps
  all_goals first
    | (exfalso; omega)
    | exact ret _ _ _ (by assumption) (cb_drop (by assumption) (fun p9 h9 => by (repeat (first | exact h9 | refine List.Mem.tail _ ?_))))
set_option maxRecDepth 100000 in
set_option maxHeartbeats 8000000 in
theorem tib_sign (w : World) (p : Program) (loose : List Str) (mean : ExcName → Option Value) (mg mb : Str → Option Value) (news : List (Addr × Obj)) (b : Array UInt8) (tb : Tok) (ks : List Int) (hks : KBw.bInts b = ks) (hlen : ks.length ≤ 1000)
    (base : Int) (tbs : Tok) (width : Int) (tw : Tok) (hb0 : 2 ≤ base) (hb1 : base ≤ 36) (hw0 : 1 ≤ width) (hw1 : width ≤ 70)
    (lim dx : Addr) (sl : Array (Option Value)) (es : List DictEntry) (ne : Nat) (hl1 : (lim, (⟨.ref 53, some dx, .plain, sl⟩ : Obj)) ∈ news) (hl2 : (dx, dictOf es ne) ∈ news) (hget : getL (Str.ofString "width") es = some (some (.int width tw)))
    (hpos : 1 < ks.length) (v : Int) (hr : readGo base width.toNat (ks.drop ((0 : Int) + 1).toNat) 0 ((0 : Int) + 1) = (v, (ks.length : Int)))
    (hbl : isBlank (ks.getD (0 : Int).toNat 0) = false) (h45 : ks.getD (0 : Int).toNat 0 = 45) (hsg : isSign (ks.getD (0 : Int).toNat 0) = true) (hx : isXx (ks.getD ((0 : Int) + 1 + 1).toNat 0) = false ∨ [0, 16].any (· == base) = false)
    (dp un : Nat) (gd : Option (List Code)) (cn : Str) (cs : Scope) (a : Addr) (ccd : Value) (cl : List (Str × Addr)) (outer : List Env) (A₀ : Around) (base₀ h₀ : Heap) (L : Addr) (m : Str → Option Value) (s : Shared) (Q E : Value → Shared → Prop)
    (B : Below A₀ base₀ outer h₀) (F : Fr h₀ L s.heap m) (X : (Mine.hd.heap_39 w.params).In h₀) (N : News h₀ L s.heap news) (T : Top p loose mean mg mb h₀) (hk : cs.kind = .function) (hd : dp + 3 < recursionLimit) (hu : un + 128 < cLine)
    (ret : ∀ t h' tk', Fr h₀ L h' m → News h₀ L h' news → Q (.int (wrapF (-v) width) t) { s with heap := h', toks := tk' }) :
    wpAny (model PySem.Challenge.rw_pq0675_01.row.prog w) (ktrTop dp un gd cn cs L a ccd cl outer) (call (.ref 99) [.bytes b tb, .int base tbs, .ref lim]) Q E s := by
  w_top off; k_with_none; revert X; k_fill; intro X
  k_with "marked" => (
    (rename Fr _ _ _ _ => cF'); (rename News _ _ _ _ => cN')
    (refine' kcj (fun (b : Bool) (_ : Tok) => Value.bool b) (fun _ => false) cF' cN' (fun u' hM' => ?_) ?_)
    (all_goals (try k_fold)); (all_goals (try ((rename KPfMark => hM0); rcases hx with hx | hx))))
  refine wpAny_call ?_
  k_dflt cell_enter
  k_steps
  all_goals first
    | (exfalso; omega)
    | exact ret _ _ _ (by assumption) (cb_drop (by assumption) (fun p9 h9 => by (repeat (first | exact h9 | refine List.Mem.tail _ ?_))))
end Mine
namespace Mine
def signs : List Int := [48, 49, 50, 51, 52, 53, 54, 55, 56, 57, 97, 98, 99, 100, 101, 102, 103, 104, 105, 106, 107, 108, 109, 110, 111, 112, 113, 114, 115, 116, 117, 118, 119, 120, 121, 122]
def octAt (i : Nat) (d : Int) : Int := if i % 2 = 1 ∧ signs.getD d.toNat 0 > 96 then signs.getD d.toNat 0 - 32 else signs.getD d.toNat 0
def octsTo (ds : List Int) (i : Nat) : List Int := (List.range i).map fun j => octAt j (ds.getD j 0)
theorem octsTo_succ {ds : List Int} {i : Nat} {d : Int} (h : ds[i]? = some d) : octsTo ds (i + 1) = octsTo ds i ++ [octAt i d] := by
  unfold octsTo
  rw [List.range_succ, List.map_append, List.map_cons, List.map_nil, List.getD_eq_getElem?_getD, h]
  rfl
theorem octsTo_length {ds : List Int} {i : Nat} : (octsTo ds i).length = i := by simp [octsTo]
section
variable {prog : Program} {w : World} {A : Around} {E : Value → Shared → Prop} {s : Shared} {env : Env} {h₀ : Heap} {m : Str → Option Value} {news : List (Addr × Obj)}
theorem enum_loop {xi xc : Str} {body : List Stmt} {Q : Flow → Shared → Prop} {l : Addr} {vs : List Value} (hh : A.handled = none) (hl : s.heap.IsList l vs.toArray) (hlL : env.locals ≠ l) (F : Fr h₀ env.locals s.heap m) (N : News h₀ env.locals s.heap news)
    (J : Nat → (Str → Option Value) → List (Addr × Obj) → Prop) (h0 : J 0 m news)
    (step : ∀ (i : Nat) v t m₁ news₁ h tk own, vs[i]? = some v → J i m₁ news₁ → news₁.map (·.1) = news.map (·.1) → (∀ p ∈ own, p.1 = l ∨ s.heap.objs.size ≤ p.1) →
      Fr h₀ env.locals h (fun y => if y = xc then some v else if y = xi then some (.int i t) else m₁ y) → News h₀ env.locals h (own ++ news₁) →
      wpAny (model prog w) A (execs body env) (LoopStep3 h₀ env.locals own news₁ (J (i + 1)) { s with heap := h, toks := tk } (fun v s' => Q (.ret v) s') fun s' => Q .next s') E { s with heap := h, toks := tk })
    (done : ∀ h' tk m' news', Fr h₀ env.locals h' m' → News h₀ env.locals h' news' → news'.map (·.1) = news.map (·.1) → J vs.length m' news' → Q .next { s with heap := h', toks := tk }) :
    wpAny (model prog w) A (call (.type "enumerate") [.ref l]) (fun xv s₁ => wpAny (model prog w) A (pyIter xv) (fun it s₂ => PairAt3 prog w A h₀ env xi xc body Q E it s₂) E s₁) E s := by
  have hlt : l < s.heap.objs.size := by obtain ⟨o, ho, _⟩ := id hl; exact Heap.lt_size ho
  have hLs : env.locals < s.heap.objs.size := F.ns.lt
  have hab : h₀.objs.size ≤ env.locals := F.above
  refine call_enumerate_list hl fun h' he hit hsz hk => ?_
  refine wpAny_pyIter_enum he ?_
  refine ⟨s.heap.objs.size + 1, [s.heap.objs.size + 1, s.heap.objs.size, l], [s.heap.objs.size + 1, s.heap.objs.size], vs.toArray.size, _, _, _, (fun i v0 v1 => ∃ t, v0 = .int (i : Int) t ∧ vs[i]? = some v1), m, news, J, rfl, WalksT.enumerate hh (s.heap.objs.size + 1) s.heap.objs.size l (Nat.succ_ne_self _) (Nat.ne_of_lt (Nat.lt_succ_of_lt hlt)) (Nat.ne_of_lt hlt) vs.toArray, ?_, ?_, ?_, ?_, ⟨⟨_, he⟩, hit, hl.at fun o e => hk l o e⟩, F.keeps hk, N.grown hk, h0, ?_, ?_⟩
  · rintro i vals ⟨t, x, hx, rfl⟩
    exact ⟨_, _, rfl, t, rfl, by simpa using hx⟩
  · intro hm
    simp only [List.mem_cons, List.not_mem_nil, or_false] at hm
    rcases hm with e | e | e
    · exact Nat.ne_of_lt (Nat.lt_succ_of_lt hLs) e
    · exact Nat.ne_of_lt hLs e
    · exact hlL e
  · intro b hb
    refine Heap.get?_none_of_le ?_
    simp only [List.mem_cons, List.not_mem_nil, or_false] at hb
    rcases hb with e | e
    · rw [e]; exact Nat.le_trans hab (Nat.le_of_lt (Nat.lt_succ_of_lt hLs))
    · rw [e]; exact Nat.le_trans hab (Nat.le_of_lt hLs)
  · intro p hp hb
    have hp1 : p.1 < s.heap.objs.size := Heap.lt_size (N p hp).1
    simp only [List.mem_cons, List.not_mem_nil, or_false] at hb
    rcases hb with e | e
    · exact Nat.ne_of_lt (Nat.lt_succ_of_lt hp1) e
    · exact Nat.ne_of_lt hp1 e
  · rintro i v0 v1 m₁ news₁ s₁ own ⟨hh₁, tk₁, rfl⟩ _ ⟨t, rfl, hv⟩ hJ ha hsub F₁ N₁
    refine step i v1 t m₁ news₁ hh₁ tk₁ own hv hJ ha (fun p hp => ?_) F₁ N₁
    have := hsub p hp
    simp only [List.mem_cons, List.not_mem_nil, or_false] at this
    rcases this with e | e | e
    · exact .inr (by rw [e]; exact Nat.le_succ _)
    · exact .inr (by rw [e]; exact Nat.le_refl _)
    · exact .inl e
  · intro h' tk m' news' F' N' e hJ
    exact done h' tk m' news' F' N' e (by simpa using hJ)
end
def EEnd (h₀ : Heap) (L : Addr) (s : Shared) (D : Addr) (own : List (Addr × Obj)) (m : Str → Option Value) (xi xc : Str) (stored : List Str) (P : Array Value → Prop) (s₂ : Shared) : Prop :=
  ∃ h' tk m' its n, s₂ = { s with heap := h', toks := tk } ∧ Fr h₀ L h' m' ∧ News h₀ L h' ((D, listOf its n) :: own) ∧ (∀ z, z ≠ xc → z ≠ xi → stored.contains z = false → m' z = m z) ∧ P its
def EPost (Q : Flow → Shared → Prop) (End : Shared → Prop) (f : Flow) (s : Shared) : Prop :=
  match f with
  | .ret v => Q (.ret v) s
  | .brk => Q .next s
  | _ => End s
theorem e_end {h₀ : Heap} {L : Addr} {s : Shared} {D : Addr} {own own' : List (Addr × Obj)} {m m' : Str → Option Value} {xi xc : Str} {stored : List Str} {P : Array Value → Prop} {h' : Heap} {tk : Nat} {its : Array Value} {n : Nat}
    (F : Fr h₀ L h' m') (N : News h₀ L h' own') (hn : ∀ p ∈ (D, listOf its n) :: own, p ∈ own') (hr : ∀ z, z ≠ xc → z ≠ xi → stored.contains z = false → m' z = m z) (hp : P its) :
    EEnd h₀ L s D own m xi xc stored P { s with heap := h', toks := tk } := ⟨h', tk, m', its, n, rfl, F, fun p hp => N p (hn p hp), hr, hp⟩
section
variable {prog : Program} {w : World} {A : Around} {E : Value → Shared → Prop} {s : Shared} {env : Env} {h₀ : Heap} {m : Str → Option Value}
theorem enum_fill {xi xc : Str} {body : List Stmt} {Q : Flow → Shared → Prop} {l D : Addr} {vs : List Value} {ds : List Int} {news rest : List (Addr × Obj)} {its₀ : Array Value} {n₀ : Nat} (stored : List Str) (P : Nat → Array Value → Prop) (hh : A.handled = none) (hl : s.heap.IsList l vs.toArray) (hi : IntsAre vs ds) (hlL : env.locals ≠ l) (hlD : D ≠ l)
    (F : Fr h₀ env.locals s.heap m) (N : News h₀ env.locals s.heap news) (hn : ∀ p ∈ (D, listOf its₀ n₀) :: rest, p ∈ news) (hrest : ∀ p ∈ rest, p.1 ≠ D) (h0 : P 0 its₀)
    (step : ∀ (i : Nat) (d : Int) (td t : Tok) (u : Str → Option Value) its n h tk own, ds[i]? = some d → P i its → (∀ p ∈ own ++ rest, p.1 ≠ D) →
      Fr h₀ env.locals h (fun y => if y = xc then some (.int d td) else if y = xi then some (.int i t) else if stored.contains y = true then u y else m y) → News h₀ env.locals h ((D, listOf its n) :: (own ++ rest)) →
      wpAny (model prog w) A (execs body env) (EPost Q (EEnd h₀ env.locals { s with heap := h, toks := tk } D (own ++ rest) m xi xc stored (P (i + 1)))) E { s with heap := h, toks := tk })
    (done : ∀ (u : Str → Option Value) its n h tk, P ds.length its → Fr h₀ env.locals h (fun y => if (xc :: xi :: stored).contains y = true then u y else m y) → News h₀ env.locals h ((D, listOf its n) :: rest) → Q .next { s with heap := h, toks := tk }) :
    wpAny (model prog w) A (call (.type "enumerate") [.ref l]) (fun xv s₁ => wpAny (model prog w) A (pyIter xv) (fun it s₂ => PairAt3 prog w A h₀ env xi xc body Q E it s₂) E s₁) E s := by
  have N0 : News h₀ env.locals s.heap ((D, listOf its₀ n₀) :: rest) := fun p hp => N p (hn p hp)
  have hDs : D < s.heap.objs.size := Heap.lt_size (N0 _ (.head _)).1
  refine enum_loop hh hl hlL F N0 (fun i m' nx => (∀ z, z ≠ xc → z ≠ xi → stored.contains z = false → m' z = m z) ∧ ∃ its n, nx = (D, listOf its n) :: rest ∧ P i its) ⟨fun _ _ _ _ => rfl, _, _, rfl, h0⟩ ?_ ?_
  · rintro i v t m₁ news₁ h tk own hv ⟨hm, its, n, rfl, hP⟩ - hown F₁ N₁
    obtain ⟨d, td, rfl, hd⟩ := hi.at i v hv
    have em : (fun y => if y = xc then some (Value.int d td) else if y = xi then some (.int i t) else m₁ y) = fun y => if y = xc then some (.int d td) else if y = xi then some (.int i t) else if stored.contains y = true then m₁ y else m y := by
      funext y
      by_cases h1 : y = xc
      · simp [h1]
      · by_cases h2 : y = xi
        · simp [h2]
        · cases h3 : stored.contains y with
          | true => simp [h1, h2]
          | false => simp [h1, h2, hm y h1 h2 h3]
    rw [em] at F₁
    have hoD : ∀ p ∈ own ++ rest, p.1 ≠ D := by
      intro p hp
      rcases List.mem_append.mp hp with hp | hp
      · rcases hown p hp with e | e
        · rw [e]; exact hlD.symm
        · exact Nat.ne_of_gt (Nat.lt_of_lt_of_le hDs e)
      · exact hrest p hp
    refine wpAny_mono (step i d td t m₁ its n h tk own hd hP hoD F₁ ?_) (fun f s₃ q => ?_) fun _ _ x => x
    · intro p hp
      refine N₁ p ?_
      rcases List.mem_cons.mp hp with e | hp
      · rw [e]; exact List.mem_append_right _ (.head _)
      · rcases List.mem_append.mp hp with hp | hp
        · exact List.mem_append_left _ hp
        · exact List.mem_append_right _ (.tail _ hp)
    · have key : EEnd h₀ env.locals { s with heap := h, toks := tk } D (own ++ rest) m xi xc stored (P (i + 1)) s₃ → LoopStep2 h₀ env.locals own ((D, listOf its n) :: rest) (fun m' nx => (∀ z, z ≠ xc → z ≠ xi → stored.contains z = false → m' z = m z) ∧ ∃ its n, nx = (D, listOf its n) :: rest ∧ P (i + 1) its) { s with heap := h, toks := tk } .next s₃ := by
        rintro ⟨h', tk', m', its', n', rfl, F', N', hm', hP'⟩
        refine LoopStep2.intro (news₂ := (D, listOf its' n') :: rest) F' (fun p hp => N' p ?_) rfl ⟨hm', _, _, rfl, hP'⟩
        rcases List.mem_append.mp hp with hp | hp
        · exact .tail _ (List.mem_append_left _ hp)
        · rcases List.mem_cons.mp hp with e | hp
          · rw [e]; exact .head _
          · exact .tail _ (List.mem_append_right _ hp)
      cases f with
      | ret v => exact q
      | brk => exact q
      | next => exact key q
      | cont => exact key q
  · rintro h' tk m' news' F' N' - ⟨hm, its, n, rfl, hP⟩
    refine done m' its n h' tk (by rw [← hi.length]; exact hP) ?_ N'
    have em : m' = fun y => if (xc :: xi :: stored).contains y = true then m' y else m y := by
      funext y
      cases h3 : (xc :: xi :: stored).contains y with
      | true => simp
      | false =>
        simp only [List.contains_cons, Bool.or_eq_false_iff, beq_eq_false_iff_ne, ne_eq] at h3
        simp [hm y h3.1 h3.2.1 h3.2.2]
    rw [← em]
    exact F'
end
theorem oct_facts (i : Nat) {d : Int} (h0 : 0 ≤ d) (h1 : d < 36) : digitOf (octAt i d) = d ∧ 48 ≤ octAt i d ∧ octAt i d ≤ 122 := by
  have key : ∀ (b : Bool) (k : Fin 36), digitOf (if b = true ∧ signs.getD k.val 0 > 96 then signs.getD k.val 0 - 32 else signs.getD k.val 0) = (k.val : Int) ∧ 48 ≤ (if b = true ∧ signs.getD k.val 0 > 96 then signs.getD k.val 0 - 32 else signs.getD k.val 0) ∧ (if b = true ∧ signs.getD k.val 0 > 96 then signs.getD k.val 0 - 32 else signs.getD k.val 0) ≤ 122 := by decide
  have hk := key (decide (i % 2 = 1)) ⟨d.toNat, by omega⟩
  have e : ((d.toNat : Nat) : Int) = d := Int.toNat_of_nonneg h0
  simp only [decide_eq_true_eq] at hk
  rw [e] at hk
  exact hk
theorem octs_in {ds : List Int} (hds : ∀ d ∈ ds, 0 ≤ d ∧ d < 36) : ∀ n ∈ octsTo ds ds.length, 0 ≤ n ∧ n < 256 := by
  intro n hn
  obtain ⟨j, hj, rfl⟩ := List.mem_map.mp hn
  have hj' : j < ds.length := List.mem_range.mp hj
  have hm : ds.getD j 0 ∈ ds := by
    rw [List.getD_eq_getElem?_getD, List.getElem?_eq_getElem hj']
    exact List.getElem_mem _
  have := oct_facts j (hds _ hm).1 (hds _ hm).2
  omega
theorem sgn_eq (j : Nat) : ((([48, 49, 50, 51, 52, 53, 54, 55, 56, 57, 97, 98, 99, 100, 101, 102, 103, 104, 105, 106, 107, 108, 109, 110, 111, 112, 113, 114, 115, 116, 117, 118, 119, 120, 121, 122] : List UInt8).getD j 0).toNat : Int) = signs.getD j 0 := KBw.getD_ints _ j
theorem ints_one {x y : Int} {t : Tok} (h : x = y) : IntsAre [.int x t] [y] := by subst h; exact .cons _ _ .nil
local macro_rules | `(tactic| walk_at "call type:enumerate") => `(tactic| k_extra "enum")
local macro_rules | `(tactic| walk_at "EPost") => `(tactic| (dsimp only [EPost]))
local macro_rules | `(tactic| k_all) => `(tactic| assumption)
set_option maxRecDepth 100000 in
set_option maxHeartbeats 8000000 in
theorem octets_ok (w : World) (p : Program) (loose : List Str) (mean : ExcName → Option Value) (mg mb : Str → Option Value) (news : List (Addr × Obj)) (l : Addr) (vs : List Value) (ln : Nat) (ds : List Int) (hi : IntsAre vs ds) (hds : ∀ d ∈ ds, 0 ≤ d ∧ d < 36) (hlen : ds.length ≤ 100) (hl : (l, listOf vs.toArray ln) ∈ news)
    (dp un : Nat) (gd : Option (List Code)) (cn : Str) (cs : Scope) (a : Addr) (ccd : Value) (cl : List (Str × Addr)) (outer : List Env) (A₀ : Around) (base₀ h₀ : Heap) (L : Addr) (m : Str → Option Value) (s : Shared) (Q E : Value → Shared → Prop)
    (B : Below A₀ base₀ outer h₀) (F : Fr h₀ L s.heap m) (X : (Mine.hd.heap_39 w.params).In h₀) (N : News h₀ L s.heap news) (T : Top p loose mean mg mb h₀) (hk : cs.kind = .function) (hd : dp + 2 < recursionLimit) (hu : un + 64 < cLine)
    (ret : ∀ b t h' tk', KBw.bInts b = octsTo ds ds.length → Fr h₀ L h' m → News h₀ L h' news → Q (.bytes b t) { s with heap := h', toks := tk' }) :
    wpAny (model PySem.Challenge.rw_pq0675_01.row.prog w) (ktrTop dp un gd cn cs L a ccd cl outer) (call (.ref 113) [.ref l]) Q E s := by
  w_top off; k_with_none; revert X; k_fill; intro X
  k_with "enum" => (
    (rename Fr _ _ _ _ => lF'); (rename News _ _ _ _ => lN')
    (refine' enum_fill (vs := vs) (ds := ds) (rest := news) [Str.ofString "octet"] (fun i its => IntsAre its.toList (octsTo ds i)) rfl ?ea hi ?eb ?ec lF' lN' (fun p hp => hp) ?ed ?ee ?_ ?_)
    (case ea => exact News.isList lN' (.tail _ hl))
    (case eb => exact ((lN' _ (List.Mem.tail _ hl)).2.1).symm)
    (case ec => exact Nat.ne_of_gt ((by assumption : ∀ p ∈ news, p.1 < _) _ hl))
    (case ed => exact fun p hp => Nat.ne_of_lt ((by assumption : ∀ p ∈ news, p.1 < _) _ hp))
    (case ee => exact IntsAre.nil)
    rotate_left
    clear lF' lN'
    (rintro u ⟨its⟩ n h tk hP F1 N1)
    (have hin := octs_in hds)
    (have hil := hP.length)
    rw [octsTo_length] at hil
    (dsimp only at hP hil N1)
    rotate_left
    clear lF' lN'
    (rintro i d td t u ⟨its⟩ n h tk own hdi hP hown F1 N1)
    (obtain ⟨hd0, hd1⟩ := hds d (List.mem_of_getElem? hdi))
    (have hil : i < ds.length := (List.getElem?_eq_some_iff.mp hdi).1)
    (have hits := hP.length)
    rw [octsTo_length] at hits
    (dsimp only at hP hits N1)
    (all_goals (try k_fold)))
  refine wpAny_call ?_
  k_dflt cell_enter
  k_steps
  all_goals first
    | (refine e_end (by assumption) (by assumption) (fun p hp => hp) ?_ ?_
       · intro z h1 h2 h3
         simp only [List.contains_cons, List.contains_nil, Bool.or_false, beq_eq_false_iff_ne, ne_eq] at h3
         simp [h1, h2, h3]
       · rw [octsTo_succ hdi, Array.toList_push]
         refine hP.append (ints_one ?_)
         unfold octAt
         simp only [sgn_eq, Int.fmod_eq_emod_of_nonneg _ (by decide : (0 : Int) ≤ 2)] at *
         split <;> omega)
    | exact ret _ _ _ _ (KBa.ints_make hin) (by assumption) (cb_drop (by assumption) (fun p9 h9 => by (repeat (first | exact h9 | refine List.Mem.tail _ ?_))))
end Mine
namespace Mine
local macro_rules | `(tactic| k_all) => `(tactic| assumption)
theorem perm_fd {h₀ h : Heap} {L fd : Addr} {o : Obj} {co : Addr × Obj} {pre post : List (Addr × Obj)} (nE : News h₀ L h ((fd, o) :: co :: (pre ++ post))) : News h₀ L h (pre ++ (fd, o) :: post) := by
  intro p hp
  refine nE p ?_
  rcases List.mem_append.mp hp with hp | hp
  · exact .tail _ (.tail _ (List.mem_append_left _ hp))
  · rcases List.mem_cons.mp hp with e | hp
    · rw [e]; exact .head _
    · exact .tail _ (.tail _ (List.mem_append_right _ hp))
theorem fmod_in {x m : Int} (h : 0 < m) : 0 ≤ x.fmod m ∧ x.fmod m < m := by
  rw [Int.fmod_eq_emod_of_nonneg _ (Int.le_of_lt h)]
  exact ⟨Int.emod_nonneg _ (Int.ne_of_gt h), Int.emod_lt_of_pos _ h⟩
set_option maxRecDepth 100000 in
set_option maxHeartbeats 8000000 in
theorem next_ok (w : World) (p : Program) (loose : List Str) (mean : ExcName → Option Value) (mg mb : Str → Option Value) (news : List (Addr × Obj)) (fd c : Addr) (vs : List Value) (cn' : Nat) (ns : List Int) (turn : Int) (tt : Tok) (n : Nat) (g : Obj → List (Addr × Obj)) (hi : IntsAre vs ns) (hlen : ns.length ≤ 1000)
    (U : UpdF fd (listOf [Value.ref c, Value.int turn tt].toArray n) news g) (hc : (c, listOf vs.toArray cn') ∈ news) (hcf : c ≠ fd) (ht0 : 0 ≤ turn) (ht1 : turn ≤ 1000) (many : Int) (tm : Tok) (hm0 : 0 < many) (hm1 : many ≤ 1000)
    (dp un : Nat) (gd : Option (List Code)) (cn : Str) (cs : Scope) (a : Addr) (ccd : Value) (cl : List (Str × Addr)) (outer : List Env) (A₀ : Around) (base₀ h₀ : Heap) (L : Addr) (m : Str → Option Value) (s : Shared) (Q E : Value → Shared → Prop)
    (B : Below A₀ base₀ outer h₀) (F : Fr h₀ L s.heap m) (X : (Mine.hd.heap_39 w.params).In h₀) (N : News h₀ L s.heap news) (T : Top p loose mean mg mb h₀) (hk : cs.kind = .function) (hd : dp + 1 < recursionLimit) (hu : un + 64 < cLine)
    (ret : ∀ r t tt' h' tk', 0 ≤ r → r < many → Fr h₀ L h' m → News h₀ L h' (g (listOf [Value.ref c, Value.int (turn + 1) tt'].toArray n)) → Q (.int r t) { s with heap := h', toks := tk' }) :
    wpAny (model PySem.Challenge.rw_pq0675_01.row.prog w) (ktrTop dp un gd cn cs L a ccd cl outer) (call (.ref 106) [.ref fd, .int many tm]) Q E s := by
  w_top off; k_with_none; revert X; k_fill; intro X
  obtain ⟨pre, post, hnews, hg, hpre, hpost⟩ := U.split
  have hown : ∀ p ∈ pre ++ post, p.1 ≠ fd := by
    intro p hp
    rcases List.mem_append.mp hp with hp | hp
    · exact hpre p hp
    · exact hpost p hp
  have N2 : News h₀ L s.heap ((fd, listOf [Value.ref c, Value.int turn tt].toArray n) :: (c, listOf vs.toArray cn') :: (pre ++ post)) := by
    intro p hp
    rcases List.mem_cons.mp hp with e | hp
    · rw [e]; exact N _ (by rw [hnews]; exact List.mem_append_right _ (.head _))
    · rcases List.mem_cons.mp hp with e | hp
      · rw [e]; exact N _ hc
      · rcases List.mem_append.mp hp with hp | hp
        · exact N p (by rw [hnews]; exact List.mem_append_left _ hp)
        · exact N p (by rw [hnews]; exact List.mem_append_right _ (.tail _ hp))
  simp only [hg] at ret
  clear N U hg hpre hpost
  have hil := hi.length
  refine wpAny_call ?_
  k_dflt cell_enter
  k_steps
  all_goals (
    rename News h₀ L _ _ => nE
    exact ret _ _ _ _ _ (fmod_in hm0).1 (fmod_in hm0).2 (by assumption) (perm_fd nE))
end Mine
namespace Mine
def stopAt (b : Int) : List Int → Prop
  | [] => True
  | o :: _ => digitOf o < 0 ∨ b ≤ digitOf o
noncomputable def valR (B : Int) : List Int → Int
  | [] => 0
  | d :: r => d + B * valR B r
theorem valR_snoc (B d : Int) : ∀ pre : List Int, valR B (pre ++ [d]) = valR B pre + d * B ^ pre.length
  | [] => by simp [valR]
  | a :: r => by
    rw [List.cons_append, valR, valR, valR_snoc B d r, List.length_cons, Int.pow_succ, Int.mul_add, Int.add_assoc, Int.mul_comm (B ^ r.length) B, Int.mul_left_comm d B]
def DueInv (B : Int) (W : Nat) (pre : List Int) (d g : Int) : Prop := d = valR B pre % 2 ^ W ∧ g = B ^ pre.length % 2 ^ W
theorem due_start (B : Int) (W : Nat) (hW : 1 ≤ W) : DueInv B W [] 0 1 := by
  refine ⟨by simp [valR], ?_⟩
  have h : (1 : Int) < 2 ^ W := by
    have h0 : (2 : Nat) ^ 1 ≤ 2 ^ W := Nat.pow_le_pow_right (by decide) hW
    have h1 := kbt_cast W
    omega
  simp only [List.length_nil, Int.pow_zero]
  exact (Int.emod_eq_of_lt (by decide) h).symm
theorem due_step {B : Int} {W : Nat} {pre : List Int} {d g n : Int} (h : DueInv B W pre d g) : DueInv B W (pre ++ [n]) ((d + n * g).fmod (2 ^ W)) ((g * B).fmod (2 ^ W)) := by
  obtain ⟨rfl, rfl⟩ := h
  rw [Int.fmod_eq_emod_of_nonneg _ (Int.le_of_lt (kbt_pos W)), Int.fmod_eq_emod_of_nonneg _ (Int.le_of_lt (kbt_pos W))]
  refine ⟨?_, ?_⟩
  · rw [valR_snoc, Int.add_emod, Int.emod_emod, Int.mul_emod, Int.emod_emod, ← Int.mul_emod, ← Int.add_emod]
  · rw [List.length_append, List.length_singleton, Int.pow_succ, Int.mul_emod, Int.emod_emod, ← Int.mul_emod]
theorem readGo_run {B : Int} {W : Nat} : ∀ (os ds rest : List Int) (f a : Int), os.map digitOf = ds → (∀ d ∈ ds, 0 ≤ d ∧ d < B) → readGo B W (os ++ rest) f a = readGo B W rest (ds.foldl (fun f d => (f * B + d) % 2 ^ W) f) (a + (ds.length : Int))
  | [], ds, rest, f, a, h, _ => by
    rw [← h]; simp
  | o :: os, ds, rest, f, a, h, hd => by
    rw [← h] at hd ⊢
    rw [List.map_cons] at hd ⊢
    have h0 := hd (digitOf o) (.head _)
    rw [List.cons_append, readGo, if_neg (by omega), readGo_run os (os.map digitOf) rest _ _ rfl (fun d hd' => hd d (.tail _ hd')), List.foldl_cons, List.length_cons]
    congr 1
    omega
theorem foldl_mod {B M : Int} : ∀ (ds : List Int) (f f' : Int), f = f' % M → ds.foldl (fun f d => (f * B + d) % M) f = (ds.foldl (fun f d => f * B + d) f') % M
  | [], f, f', h => h
  | d :: ds, f, f', h => by
    rw [List.foldl_cons, List.foldl_cons]
    refine foldl_mod ds _ _ ?_
    rw [h, Int.add_emod, Int.mul_emod, Int.emod_emod, ← Int.mul_emod, ← Int.add_emod]
theorem valR_foldr (B : Int) : ∀ l : List Int, valR B l = l.foldr (fun d acc => d + B * acc) 0
  | [] => rfl
  | d :: r => by rw [valR, valR_foldr B r]; rfl
theorem foldl_val (B : Int) (ds : List Int) : ds.foldl (fun f d => f * B + d) 0 = valR B ds.reverse := by
  rw [valR_foldr, List.foldr_reverse]
  congr 1
  funext f d
  rw [Int.add_comm, Int.mul_comm]
theorem octs_digits {ds : List Int} (h : ∀ d ∈ ds, 0 ≤ d ∧ d < 36) : (octsTo ds ds.length).map digitOf = ds := by
  refine List.ext_getElem (by simp [octsTo]) fun i h1 h2 => ?_
  have hm := h _ (List.getElem_mem h2)
  simp only [octsTo, List.getElem_map, List.getElem_range, List.getD_eq_getElem?_getD, List.getElem?_eq_getElem h2, Option.getD_some]
  exact (oct_facts i hm.1 hm.2).1
theorem run_octs {B : Int} {W : Nat} {ds rest : List Int} (hB : B ≤ 36) (h : ∀ d ∈ ds, 0 ≤ d ∧ d < B) (hst : stopAt B rest) (a : Int) :
    readGo B W (octsTo ds ds.length ++ rest) 0 a = (valR B ds.reverse % 2 ^ W, a + (ds.length : Int)) := by
  rw [readGo_run _ ds rest 0 a (octs_digits fun d hd => ⟨(h d hd).1, by have := (h d hd).2; omega⟩) h, foldl_mod ds 0 0 (by simp), foldl_val]
  cases rest with
  | nil => rfl
  | cons o r =>
    have hst' : digitOf o < 0 ∨ B ≤ digitOf o := hst
    rw [readGo, if_pos hst']
theorem text_go {B : Int} {W : Nat} {ka os kb xs : List Int} (hos : os = octsTo xs xs.length) (hB : B ≤ 36) (h : ∀ d ∈ xs, 0 ≤ d ∧ d < B) (hst : stopAt B kb) :
    readGo B W ((ka ++ os ++ kb).drop (ka.length : Int).toNat) 0 (ka.length : Int) = (valR B xs.reverse % 2 ^ W, (ka.length : Int) + (xs.length : Int)) := by
  rw [Int.toNat_natCast, List.append_assoc, List.drop_left, hos, run_octs hB h hst]
theorem plain_go {B : Int} {W : Nat} {os xs : List Int} (hos : os = octsTo xs xs.length) (hB : B ≤ 36) (h : ∀ d ∈ xs, 0 ≤ d ∧ d < B) :
    readGo B W (os.drop (0 : Int).toNat) 0 0 = (valR B xs.reverse % 2 ^ W, (os.length : Int)) := by
  have := run_octs (W := W) (rest := []) hB h trivial 0
  rw [List.append_nil, ← hos] at this
  show readGo B W os 0 0 = _
  rw [this, hos, octsTo_length, Int.zero_add]
theorem sign_go {B : Int} {W : Nat} {os xs : List Int} {c : Int} (hos : os = octsTo xs xs.length) (hB : B ≤ 36) (h : ∀ d ∈ xs, 0 ≤ d ∧ d < B) :
    readGo B W (([c] ++ os).drop ((0 : Int) + 1).toNat) 0 ((0 : Int) + 1) = (valR B xs.reverse % 2 ^ W, (([c] ++ os).length : Int)) := by
  have := run_octs (W := W) (rest := []) hB h trivial ((0 : Int) + 1)
  rw [List.append_nil, ← hos] at this
  show readGo B W os 0 ((0 : Int) + 1) = _
  rw [this]
  congr 1
  rw [hos, List.length_append, octsTo_length, List.length_singleton]
  omega
theorem end_go {B : Int} {W : Nat} (ks : List Int) : readGo B W (ks.drop (ks.length : Int).toNat) 0 (ks.length : Int) = (0, (ks.length : Int)) := readGo_end (by omega) (by omega)
theorem dash_go {B : Int} {W : Nat} : readGo B W (([45, 49] : List UInt8).map (fun c => (c.toNat : Int)) |>.drop (0 : Int).toNat) 0 0 = (0, 0) := if_pos (Or.inl (by decide))
theorem oct_get {os xs : List Int} (hos : os = octsTo xs xs.length) (h : ∀ d ∈ xs, 0 ≤ d ∧ d < 36) (i : Nat) (hi : i < xs.length) : ∃ d ∈ xs, digitOf (os.getD i 0) = d ∧ 48 ≤ os.getD i 0 ∧ os.getD i 0 ≤ 122 := by
  have hm := h _ (List.getElem_mem hi)
  refine ⟨xs[i], List.getElem_mem hi, ?_⟩
  have e : os.getD i 0 = octAt i xs[i] := by
    rw [hos, octsTo, List.getD_eq_getElem?_getD, List.getElem?_map, List.getElem?_range hi, Option.map_some, Option.getD_some, List.getD_eq_getElem?_getD, List.getElem?_eq_getElem hi, Option.getD_some]
  rw [e]
  exact oct_facts i hm.1 hm.2
theorem any_false {l : List Int} {o : Int} (h : ∀ k ∈ l, k ≠ o) : l.any (· == o) = false := by
  rw [List.any_eq_false]
  intro k hk
  simpa using h k hk
theorem first_blank {o : Int} (h : 48 ≤ o) : isBlank o = false := any_false (by intro k hk; simp only [List.mem_cons, List.not_mem_nil, or_false] at hk; omega)
theorem first_sign {o : Int} (h : 48 ≤ o) : isSign o = false := any_false (by intro k hk; simp only [List.mem_cons, List.not_mem_nil, or_false] at hk; omega)
theorem no_mark {B : Int} {os xs : List Int} (hos : os = octsTo xs xs.length) (h0 : 2 ≤ B) (hB : B ≤ 36) (h : ∀ d ∈ xs, 0 ≤ d ∧ d < B) (i : Nat) : isXx (os.getD i 0) = false ∨ [0, 16].any (· == B) = false := by
  by_cases hi : i < xs.length
  · obtain ⟨d, hd, e, -, -⟩ := oct_get hos (fun d hd => ⟨(h d hd).1, by have := (h d hd).2; omega⟩) i hi
    have hb := h d hd
    by_cases hx : os.getD i 0 = 120 ∨ os.getD i 0 = 88
    · right
      refine any_false fun k hk => ?_
      have : d = 33 := by
        rw [← e]
        rcases hx with hx | hx <;> rw [hx] <;> decide
      simp only [List.mem_cons, List.not_mem_nil, or_false] at hk
      omega
    · left
      refine any_false fun k hk => ?_
      simp only [List.mem_cons, List.not_mem_nil, or_false] at hk
      omega
  · left
    rw [List.getD_eq_getElem?_getD, List.getElem?_eq_none (by rw [hos, octsTo_length]; omega)]
    decide
end Mine
namespace Mine
theorem rd_first {B : Int} {W n₁ : Nat} {ka os kb xs : List Int} {d g : Int} (hos : os = octsTo xs xs.length) (hB : B ≤ 36) (h : ∀ d ∈ xs, 0 ≤ d ∧ d < B) (hst : stopAt B kb) (hdue : DueInv B W xs.reverse d g) (hn : xs.length = n₁) :
    readGo B W ((ka ++ os ++ kb).drop (ka.length : Int).toNat) 0 (ka.length : Int) = (d, (ka.length : Int) + (n₁ : Int)) := by
  rw [text_go hos hB h hst, hdue.1, hn]
theorem rd_end {B a : Int} {W : Nat} {ks : List Int} (h : a = (ks.length : Int)) : readGo B W (ks.drop a.toNat) 0 a = (0, a) := by
  subst h; exact end_go ks
section
variable {w : World} {p : Program} {loose : List Str} {mean : ExcName → Option Value} {mg mb : Str → Option Value}
  {dp un : Nat} {gd : Option (List Code)} {cn : Str} {cs : Scope} {a : Addr} {ccd : Value} {cl : List (Str × Addr)} {outer : List Env} {A₀ : Around} {base₀ h₀ : Heap} {L : Addr} {m : Str → Option Value} {news : List (Addr × Obj)} {s : Shared} {Q E : Value → Shared → Prop}
  {b : Array UInt8} {tb : Tok} {os xs : List Int} {base : Int} {tbs : Tok} {width : Int} {tw : Tok} {lim dx : Addr} {es : List DictEntry} {ne : Nat} {d g : Int}
theorem tibp_use (B : Below A₀ base₀ outer h₀) (F : Fr h₀ L s.heap m) (X : (Mine.hd.heap_39 w.params).In h₀) (N : News h₀ L s.heap news) (T : Top p loose mean mg mb h₀) (hk : cs.kind = .function)
    (hb : KBw.bInts b = os) (hos : os = octsTo xs xs.length) (hx1 : ∀ d ∈ xs, 0 ≤ d ∧ d < base) (hx3 : 0 < xs.length) (hx4 : xs.length ≤ 96) (hdue : DueInv base width.toNat xs.reverse d g) (hb0 : 2 ≤ base) (hb1 : base ≤ 36) (hw0 : 1 ≤ width) (hw1 : width ≤ 70)
    (hl1 : (lim, instObj 53 dx) ∈ news) (hl2 : (dx, dictOf es ne) ∈ news) (hget : getL (Str.ofString "width") es = some (some (.int width tw))) (hd : dp + 3 < recursionLimit) (hu : un + 128 < cLine)
    (ret : ∀ t h' tk', Fr h₀ L h' m → News h₀ L h' news → Q (.int (wrapF d width) t) { s with heap := h', toks := tk' }) :
    wpAny (model PySem.Challenge.rw_pq0675_01.row.prog w) (ktrTop dp un gd cn cs L a ccd cl outer) (call (.ref 99) [.bytes b tb, .int base tbs, .ref lim]) Q E s := by
  have h36 : ∀ d ∈ xs, 0 ≤ d ∧ d < 36 := fun d hd => ⟨(hx1 d hd).1, by have := (hx1 d hd).2; omega⟩
  obtain ⟨d0, -, -, h48, -⟩ := oct_get hos h36 0 hx3
  have hl : os.length = xs.length := by rw [hos, octsTo_length]
  exact tib_plain w p loose mean mg mb news b tb os hb (by omega) base tbs width tw hb0 hb1 hw0 hw1 lim dx #[] es ne hl1 hl2 hget (by omega) d
    (by rw [plain_go hos hb1 hx1, hdue.1]) (first_blank h48) (first_sign h48) (no_mark hos hb0 hb1 hx1 1) dp un gd cn cs a ccd cl outer A₀ base₀ h₀ L m s Q E B F X N T hk hd hu ret
theorem tibs_use (B : Below A₀ base₀ outer h₀) (F : Fr h₀ L s.heap m) (X : (Mine.hd.heap_39 w.params).In h₀) (N : News h₀ L s.heap news) (T : Top p loose mean mg mb h₀) (hk : cs.kind = .function)
    (hb : KBw.bInts b = [45] ++ os) (hos : os = octsTo xs xs.length) (hx1 : ∀ d ∈ xs, 0 ≤ d ∧ d < base) (hx3 : 0 < xs.length) (hx4 : xs.length ≤ 96) (hdue : DueInv base width.toNat xs.reverse d g) (hb0 : 2 ≤ base) (hb1 : base ≤ 36) (hw0 : 1 ≤ width) (hw1 : width ≤ 70)
    (hl1 : (lim, instObj 53 dx) ∈ news) (hl2 : (dx, dictOf es ne) ∈ news) (hget : getL (Str.ofString "width") es = some (some (.int width tw))) (hd : dp + 3 < recursionLimit) (hu : un + 128 < cLine)
    (ret : ∀ t h' tk', Fr h₀ L h' m → News h₀ L h' news → Q (.int (wrapF (0 - d) width) t) { s with heap := h', toks := tk' }) :
    wpAny (model PySem.Challenge.rw_pq0675_01.row.prog w) (ktrTop dp un gd cn cs L a ccd cl outer) (call (.ref 99) [.bytes b tb, .int base tbs, .ref lim]) Q E s := by
  have hl : os.length = xs.length := by rw [hos, octsTo_length]
  exact tib_sign w p loose mean mg mb news b tb ([45] ++ os) hb (by rw [List.length_append, List.length_singleton]; omega) base tbs width tw hb0 hb1 hw0 hw1 lim dx #[] es ne hl1 hl2 hget (by rw [List.length_append, List.length_singleton]; omega) d
    (by rw [sign_go hos hb1 hx1, hdue.1]) (by rfl) (by rfl) (by rfl) (no_mark hos hb0 hb1 hx1 1) dp un gd cn cs a ccd cl outer A₀ base₀ h₀ L m s Q E B F X N T hk hd hu (by rw [← Int.zero_sub]; exact ret)
end
end Mine
namespace Mine
theorem comp_ind {prog : Program} {w : World} {A : Around} {h₀ : Heap} {L : Addr} {m : Str → Option Value} {env : Env} {elt : PySem.Expr} {x : Str} {scope : Scope} {cl : List (Str × Addr)} {s : Shared} {P : Nat → Value → Prop} {Fin : List Value → List (Addr × Obj) → Prop}
    {fd c : Addr} {n N : Nat} {turn : Int} {tt₀ : Tok} {g : Obj → List (Addr × Obj)} (Bd : Int) {news : List (Addr × Obj)}
    (U : UpdF fd (listOf [Value.ref c, Value.int turn tt₀].toArray n) news g)
    (step : ∀ (i : Nat) (tt : Tok) (ys : List Value) (R : Value → List (Addr × Obj) → Prop) v I oI C oC D m₂ h tk (E' : Value → Shared → Prop), i < N → P i v → LCg.NsObj oC m₂ → m₂ x = some v → Fr h₀ L h m →
      News h₀ L h ((I, oI) :: (C, oC) :: (D, LCg.lst ys) :: g (listOf [Value.ref c, Value.int (turn + (i : Int)) tt].toArray n)) → LCg.Off3 I C D (g (listOf [Value.ref c, Value.int (turn + (i : Int)) tt].toArray n)) → ((@Ne Nat I C) ∧ (@Ne Nat I D) ∧ (@Ne Nat C D)) →
      (∀ r t tt', 0 ≤ r → r < Bd → R (.int r t) (g (listOf [Value.ref c, Value.int (turn + (i : Int) + 1) tt'].toArray n))) →
      wpAny (model prog w) A (eval elt (compEnvC scope cl C env)) (LCg.CompEnd h₀ L m { s with heap := h, toks := tk } I oI C oC D (LCg.lst ys) (fun _ => True) R) E' { s with heap := h, toks := tk })
    (fin : ∀ ys ds tt, IntsAre ys ds → ds.length = N → (∀ d ∈ ds, 0 ≤ d ∧ d < Bd) → Fin ys (g (listOf [Value.ref c, Value.int (turn + (N : Int)) tt].toArray n))) :
    LCg.CompRest prog w A h₀ L m env elt x scope cl s (fun _ => True) P Fin N 0 [] news := by
  obtain ⟨pre, post, hnews, hg, -, -⟩ := U.split
  have e0 : news = g (listOf [Value.ref c, Value.int (turn + ((0 : Nat) : Int)) tt₀].toArray n) := by
    rw [hg, hnews, Int.natCast_zero, Int.add_zero]
  rw [e0]
  have key : ∀ (k i : Nat) (ys : List Value) (ds : List Int) (tt : Tok), i + k = N → IntsAre ys ds → ds.length = i → (∀ d ∈ ds, 0 ≤ d ∧ d < Bd) →
      LCg.CompRest prog w A h₀ L m env elt x scope cl s (fun _ => True) P Fin k i ys (g (listOf [Value.ref c, Value.int (turn + (i : Int)) tt].toArray n)) := by
    intro k
    induction k with
    | zero =>
      intro i ys ds tt hik hi hl hd
      have : i = N := by omega
      subst this
      exact fin ys ds tt hi hl hd
    | succ k ih =>
      intro i ys ds tt hik hi hl hd v I oI C oC D m₂ h tk E' hP hNs hmx F N' off ne
      refine step i tt ys _ v I oI C oC D m₂ h tk E' (by omega) hP hNs hmx F N' off ne fun r t tt' h0 h1 => ?_
      have e1 : turn + (i : Int) + 1 = turn + ((i + 1 : Nat) : Int) := by omega
      rw [e1]
      refine ih (i + 1) (ys ++ [.int r t]) (ds ++ [r]) tt' (by omega) (hi.append (.cons _ _ .nil)) (by simp [hl]) ?_
      intro d hd'
      rcases List.mem_append.mp hd' with hd' | hd'
      · exact hd d hd'
      · rw [List.mem_singleton.mp hd']; exact ⟨h0, h1⟩
  exact key N 0 [] [] tt₀ (by omega) .nil rfl (fun _ h => nomatch h)
theorem comp_ind35 {prog : Program} {w : World} {A : Around} {h₀ : Heap} {L : Addr} {m : Str → Option Value} {env : Env} {elt : PySem.Expr} {x : Str} {scope : Scope} {cl : List (Str × Addr)} {s : Shared} {P : Nat → Value → Prop} {Fin : List Value → List (Addr × Obj) → Prop}
    {fd c : Addr} {n N : Nat} {turn : Int} {tt₀ : Tok} {g : Obj → List (Addr × Obj)} {b : Int} {oc : Obj} (_ : b < 35) (_ : oc.data = Data.cell (some (Value.ref fd))) {news : List (Addr × Obj)}
    (U : UpdF fd (listOf [Value.ref c, Value.int turn tt₀].toArray n) news g)
    (step : ∀ (i : Nat) (tt : Tok) (ys : List Value) (R : Value → List (Addr × Obj) → Prop) v I oI C oC D m₂ h tk (E' : Value → Shared → Prop), i < N → P i v → LCg.NsObj oC m₂ → m₂ x = some v → Fr h₀ L h m →
      News h₀ L h ((I, oI) :: (C, oC) :: (D, LCg.lst ys) :: g (listOf [Value.ref c, Value.int (turn + (i : Int)) tt].toArray n)) → LCg.Off3 I C D (g (listOf [Value.ref c, Value.int (turn + (i : Int)) tt].toArray n)) → ((@Ne Nat I C) ∧ (@Ne Nat I D) ∧ (@Ne Nat C D)) →
      (∀ r t tt', 0 ≤ r → r < 2 + b → R (.int r t) (g (listOf [Value.ref c, Value.int (turn + (i : Int) + 1) tt'].toArray n))) →
      wpAny (model prog w) A (eval elt (compEnvC scope cl C env)) (LCg.CompEnd h₀ L m { s with heap := h, toks := tk } I oI C oC D (LCg.lst ys) (fun _ => True) R) E' { s with heap := h, toks := tk })
    (fin : ∀ ys ds tt, IntsAre ys ds → ds.length = N → (∀ d ∈ ds, 0 ≤ d ∧ d < 2 + b) → Fin ys (g (listOf [Value.ref c, Value.int (turn + (N : Int)) tt].toArray n))) :
    LCg.CompRest prog w A h₀ L m env elt x scope cl s (fun _ => True) P Fin N 0 [] news := comp_ind (2 + b) U step fin
section
variable {w : World} {p : Program} {loose : List Str} {mean : ExcName → Option Value} {mg mb : Str → Option Value}
  {dp un : Nat} {gd : Option (List Code)} {cn : Str} {cs : Scope} {a : Addr} {ccd : Value} {cl : List (Str × Addr)} {outer : List Env} {A₀ : Around} {base₀ h₀ : Heap} {L : Addr} {m : Str → Option Value} {news : List (Addr × Obj)} {s : Shared} {Q E : Value → Shared → Prop}
theorem next_use {fd c : Addr} {vs : List Value} {cn' : Nat} {ns : List Int} {turn : Int} {tt : Tok} {n : Nat} {g : Obj → List (Addr × Obj)} {many : Int} {tm : Tok}
    (B : Below A₀ base₀ outer h₀) (F : Fr h₀ L s.heap m) (X : (Mine.hd.heap_39 w.params).In h₀) (N : News h₀ L s.heap news) (T : Top p loose mean mg mb h₀) (hk : cs.kind = .function)
    (U : UpdF fd (listOf [Value.ref c, Value.int turn tt].toArray n) news g) (hc : (c, listOf vs.toArray cn') ∈ news) (hi : IntsAre vs ns) (hlen : ns.length ≤ 1000) (hcf : c ≠ fd) (ht0 : 0 ≤ turn) (ht1 : turn ≤ 1000) (hm0 : 0 < many) (hm1 : many ≤ 1000)
    (hd : dp + 1 < recursionLimit) (hu : un + 64 < cLine)
    (ret : ∀ r t tt' h' tk', 0 ≤ r → r < many → Fr h₀ L h' m → News h₀ L h' (g (listOf [Value.ref c, Value.int (turn + 1) tt'].toArray n)) → Q (.int r t) { s with heap := h', toks := tk' }) :
    wpAny (model PySem.Challenge.rw_pq0675_01.row.prog w) (ktrTop dp un gd cn cs L a ccd cl outer) (call (.ref 106) [.ref fd, .int many tm]) Q E s :=
  next_ok w p loose mean mg mb news fd c vs cn' ns turn tt n g hi hlen U hc hcf ht0 ht1 many tm hm0 hm1 dp un gd cn cs a ccd cl outer A₀ base₀ h₀ L m s Q E B F X N T hk hd hu ret
end
theorem sgn_facts {d : Int} (h0 : 0 ≤ d) (h1 : d < 36) : digitOf (signs.getD d.toNat 0) = d ∧ 48 ≤ signs.getD d.toNat 0 ∧ signs.getD d.toNat 0 ≤ 122 := by
  have := oct_facts 0 h0 h1
  unfold octAt at this
  simpa using this
theorem sgn_in {d : Int} (h0 : 0 ≤ d) (h1 : d < 36) : 0 ≤ signs.getD d.toNat 0 ∧ signs.getD d.toNat 0 < 256 := by
  have := sgn_facts h0 h1
  omega
theorem stop_one {b : Int} (h0 : 0 ≤ b) (h1 : b < 35) (h2 : ¬ 2 + b = 36) : stopAt (2 + b) [signs.getD (2 + b).toNat 0] ∧ [signs.getD (2 + b).toNat 0].length ≤ 2 := by
  refine ⟨?_, by simp⟩
  show _ ∨ _
  rw [(sgn_facts (d := 2 + b) (by omega) (by omega)).1]
  exact Or.inr (Int.le_refl _)
def BCut (P : List Int → Prop) (h₀ : Heap) (L : Addr) (m : Str → Option Value) (news : List (Addr × Obj)) (s : Shared) (v : Value) (s' : Shared) : Prop :=
  ∃ (b : Array UInt8) (ks : List Int) (t : Tok) (h : Heap) (tk : Nat), KBw.bInts b = ks ∧ P ks ∧ v = .bytes b t ∧ s' = { s with heap := h, toks := tk } ∧ Fr h₀ L h m ∧ News h₀ L h news
section
variable {prog : Program} {w : World} {A : Around} {E : Value → Shared → Prop} {s : Shared} {h₀ : Heap} {L : Addr} {m : Str → Option Value} {news news' : List (Addr × Obj)}
theorem bcut_end {P : List Int → Prop} {b : Array UInt8} {ks : List Int} {t : Tok} {h : Heap} {tk : Nat} (F : Fr h₀ L h m) (N : News h₀ L h news') (hn : ∀ p ∈ news, p ∈ news') (hb : KBw.bInts b = ks) (hP : P ks) : BCut P h₀ L m news s (.bytes b t) { s with heap := h, toks := tk } :=
  ⟨b, ks, t, h, tk, hb, hP, rfl, rfl, F, fun p hp => N p (hn p hp)⟩
theorem cut35 {c : Sem Value} {Q : Value → Shared → Prop} {b : Int} (_ : b < 35) (_F : Fr h₀ L s.heap m) (_N : News h₀ L s.heap news)
    (hc : KPfMark → wpAny (model prog w) A c (BCut (fun ks => stopAt (2 + b) ks ∧ ks.length ≤ 2) h₀ L m news s) E s)
    (hk : ∀ (x : Array UInt8) (ks : List Int) (t : Tok) (h : Heap) (tk : Nat), KBw.bInts x = ks → stopAt (2 + b) ks ∧ ks.length ≤ 2 → Fr h₀ L h m → News h₀ L h news → Q (.bytes x t) { s with heap := h, toks := tk }) : wpAny (model prog w) A c Q E s := by
  refine wpAny_mono (hc True.intro) (fun v s₂ hq => ?_) fun _ _ h => h
  obtain ⟨x, ks, t, h, tk, hb, hP, rfl, rfl, F, N⟩ := hq
  exact hk x ks t h tk hb hP F N
theorem pick_bytes {value slice : PySem.Expr} {D : Addr} {vs : List Value} {n : Nat} {i : Int} {u : Tok} {P : List Int → Prop} {Q : Value → Shared → Prop} (N : News h₀ L s.heap news) (hm : (D, listOf vs.toArray n) ∈ news) (h0 : 0 ≤ i) (h1 : i < (vs.length : Int)) (hz : vs.length ≤ 10)
    (hall : ∀ v ∈ vs, ∃ b ks t, v = Value.bytes b t ∧ KBw.bInts b = ks ∧ P ks) (h : ∀ b ks t, KBw.bInts b = ks → P ks → Q (.bytes b t) s)
    (hs : subscripted slice false (.ref D) (.int i u) = operate [.ref D, .int i u] (getItem (.ref D) (.int i u)) := by with_unfolding_all rfl) :
    wpAny (model prog w) A (subscriptTail value slice (.ref D) (.int i u)) Q E s := by
  have hl : s.heap.IsList D vs.toArray := News.isList N hm
  have hlt : i.toNat < vs.length := by omega
  obtain ⟨b, ks, t, hv, hb, hP⟩ := hall vs[i.toNat] (List.getElem_mem hlt)
  exact tail_any hl.typeIs slot_list_getitem.lookup (wpAny_getItem_list hl h0 (by omega) (by rw [← hv]; simp [hlt]) (h b ks t hb hP)) hs
theorem bytes_one {D : Addr} {c : Int} {tc : Tok} {n : Nat} {Q : Value → Shared → Prop} (F : Fr h₀ L s.heap m) (N : News h₀ L s.heap news) (hh : A.handled = none) (hm : (D, listOf [Value.int c tc].toArray n) ∈ news) (hc : 0 ≤ c ∧ c < 256)
    (h : ∀ b t h' tk, KBw.bInts b = [c] → Fr h₀ L h' m → News h₀ L h' news → Q (.bytes b t) { s with heap := h', toks := tk }) : wpAny (model prog w) A (call (.type "bytes") [.ref D]) Q E s := by
  have hin : KBa.In [c] := by
    intro n hn
    rw [List.mem_singleton.mp hn]; exact hc
  refine KBa.make_K F N hh (News.isList N hm) (.cons _ _ .nil) hin (by simp) fun h' t k F' N' => ?_
  exact fun _ => h _ _ _ _ (KBa.ints_make hin) F' N'
end
theorem xs_facts {vs : List Value} {ds : List Int} {r q b : Int} (_ : IntsAre vs (List.replicate (1 + q).toNat ds).flatten) (hdl : ds.length = (1 + r - 0).toNat) (hds : ∀ d ∈ ds, 0 ≤ d ∧ d < 2 + b) (hb : b < 35) (r0 : 0 ≤ r) (r1 : r < 8) (q0 : 0 ≤ q) (q1 : q < 12) :
    (∀ d ∈ (List.replicate (1 + q).toNat ds).flatten, 0 ≤ d ∧ d < 2 + b) ∧ (∀ d ∈ (List.replicate (1 + q).toNat ds).flatten, 0 ≤ d ∧ d < 36) ∧ 0 < (List.replicate (1 + q).toNat ds).flatten.length ∧ (List.replicate (1 + q).toNat ds).flatten.length ≤ 96 := by
  have h1 : ∀ d ∈ (List.replicate (1 + q).toNat ds).flatten, 0 ≤ d ∧ d < 2 + b := by
    intro d hd
    obtain ⟨l, hl, hd⟩ := List.mem_flatten.mp hd
    rw [(List.mem_replicate.mp hl).2] at hd
    exact hds d hd
  have hl : (List.replicate (1 + q).toNat ds).flatten.length = (1 + q).toNat * ds.length := by simp
  refine ⟨h1, fun d hd => ⟨(h1 d hd).1, by have := (h1 d hd).2; omega⟩, ?_, ?_⟩
  · rw [hl]
    exact Nat.mul_pos (by omega) (by omega)
  · rw [hl]
    exact Nat.le_trans (Nat.mul_le_mul (show (1 + q).toNat ≤ 12 by omega) (show ds.length ≤ 8 by omega)) (by decide)
section
variable {w : World} {p : Program} {loose : List Str} {mean : ExcName → Option Value} {mg mb : Str → Option Value}
  {dp un : Nat} {gd : Option (List Code)} {cn : Str} {cs : Scope} {a : Addr} {ccd : Value} {cl : List (Str × Addr)} {outer : List Env} {A₀ : Around} {base₀ h₀ : Heap} {L : Addr} {m : Str → Option Value} {news : List (Addr × Obj)} {s : Shared} {Q E : Value → Shared → Prop}
theorem octets_use {l : Addr} {vs : List Value} {ln : Nat} {ds : List Int}
    (B : Below A₀ base₀ outer h₀) (F : Fr h₀ L s.heap m) (X : (Mine.hd.heap_39 w.params).In h₀) (N : News h₀ L s.heap news) (T : Top p loose mean mg mb h₀) (hk : cs.kind = .function)
    (hl : (l, listOf vs.toArray ln) ∈ news) (hi : IntsAre vs ds) (hds : ∀ d ∈ ds, 0 ≤ d ∧ d < 36) (hlen : ds.length ≤ 96)
    (hd : dp + 2 < recursionLimit) (hu : un + 64 < cLine)
    (ret : ∀ b os t h' tk', KBw.bInts b = os → os = octsTo ds ds.length → os.length = ds.length → Fr h₀ L h' m → News h₀ L h' news → Q (.bytes b t) { s with heap := h', toks := tk' }) :
    wpAny (model PySem.Challenge.rw_pq0675_01.row.prog w) (ktrTop dp un gd cn cs L a ccd cl outer) (call (.ref 113) [.ref l]) Q E s :=
  octets_ok w p loose mean mg mb news l vs ln ds hi hds (by omega) hl dp un gd cn cs a ccd cl outer A₀ base₀ h₀ L m s Q E B F X N T hk hd hu (fun b t h' tk' hb => ret b _ t h' tk' hb rfl octsTo_length)
end
def FEnd {σ : Type} (h₀ : Heap) (L : Addr) (s₁ : Shared) (x : Str) (ps : σ → List (Str × Value)) (m₀ : Str → Option Value) (P : σ → Prop) (led : List (Addr × Obj)) (s₂ : Shared) : Prop :=
  ∃ c h' tk m' news', s₂ = { s₁ with heap := h', toks := tk } ∧ Fr h₀ L h' m' ∧ News h₀ L h' news' ∧ (∀ p ∈ led, p ∈ news') ∧ (∀ p ∈ ps c, m' p.1 = some p.2) ∧ (∀ z, z ≠ x → (∀ p ∈ ps c, z ≠ p.1) → m' z = m₀ z) ∧ P c
theorem f_end {σ : Type} {h₀ : Heap} {L : Addr} {s₁ : Shared} {x : Str} {ps : σ → List (Str × Value)} {m₀ m' : Str → Option Value} {P : σ → Prop} {led news' : List (Addr × Obj)} {h' : Heap} {tk : Nat} (c : σ)
    (F : Fr h₀ L h' m') (N : News h₀ L h' news') (hn : ∀ p ∈ led, p ∈ news') (hk : ∀ p ∈ ps c, m' p.1 = some p.2) (hr : ∀ z, z ≠ x → (∀ p ∈ ps c, z ≠ p.1) → m' z = m₀ z) (hp : P c) :
    FEnd h₀ L s₁ x ps m₀ P led { s₁ with heap := h', toks := tk } := ⟨c, h', tk, m', news', rfl, F, N, hn, hk, hr, hp⟩
theorem my_for {prog : Program} {w : World} {A : Around} {E : Value → Shared → Prop} {Q : Flow → Shared → Prop} {s : Shared} {env : Env} {h₀ : Heap} {x : Str} {body : List Stmt} {σ : Type} {l : Addr} {vs : List Value} {ns : List Int} {nn : Nat} {led : List (Addr × Obj)} {m₀ : Str → Option Value} (ps : σ → List (Str × Value)) (P : List Int → σ → Prop) (c₀ : σ)
    (hh : A.handled = none) (hl : (l, listOf vs.toArray nn) ∈ led) (hi : IntsAre vs ns) (F : Fr h₀ env.locals s.heap m₀) (N : News h₀ env.locals s.heap led) (hk : ∀ p ∈ ps c₀, m₀ p.1 = some p.2) (hp : P [] c₀)
    (turn : ∀ (c : σ) pre n t (u : Str → Option Value) h tk own, n ∈ ns → P pre c →
      Fr h₀ env.locals h (fun y => if y = x then some (.int n t) else kstB (fun z => if ([] : List Str).contains z then u z else m₀ z) (ps c) y) → News h₀ env.locals h (led ++ own) →
      wpAny (model prog w) A (execs body env) (EPost Q (FEnd h₀ env.locals { s with heap := h, toks := tk } x ps m₀ (P (pre ++ [n])) (led ++ own))) E { s with heap := h, toks := tk })
    (done : ∀ (c : σ) (u : Str → Option Value) h tk, P ns c → Fr h₀ env.locals h (fun y => if y = x then u y else kstB (fun z => if ([] : List Str).contains z then u z else m₀ z) (ps c) y) → News h₀ env.locals h led → Q .next { s with heap := h, toks := tk }) :
    wpAny (model prog w) A (pyIter (.ref l)) (fun it s₂ => LoopAtV prog w A h₀ env x body Q E it s₂) E s := by
  refine kst_listL (σ := σ) (fun _ => led) ps (fun _ => True) [] P c₀ hh (fun _ => hl) hi F N trivial hk hp (fun c pre post n t u h tk own _ hn _ _ hp' F1 N1 => ?_) (fun c u h tk _ hp' F1 N1 => done c u h tk hp' F1 N1)
  refine wpAny_mono (turn c pre n t u h tk own hn hp' F1 N1) (fun f s₃ q => ?_) fun _ _ x => x
  have key : FEnd h₀ env.locals { s with heap := h, toks := tk } x ps m₀ (P (pre ++ [n])) (led ++ own) s₃ → InvEndN h₀ env.locals (KstS (fun _ => led) ps (fun _ => True) x [] m₀ P (pre ++ [n])) own (led.map (·.1)) { s with heap := h, toks := tk } s₃ := by
    rintro ⟨c', h', tk', m', news', rfl, F', N', hn', hk', hr', hp'⟩
    exact kst_end c' F' N' (fun p hp => hn' p (List.mem_append_left _ hp)) (fun p hp => hn' p (List.mem_append_right _ hp)) rfl trivial hk' (fun z h1 h2 _ => hr' z h1 h2) hp'
  cases f with
  | ret v => exact q
  | brk => exact q
  | next => exact key q
  | cont => exact key q
theorem my_for35 {prog : Program} {w : World} {A : Around} {E : Value → Shared → Prop} {Q : Flow → Shared → Prop} {s : Shared} {env : Env} {h₀ : Heap} {x : Str} {body : List Stmt} {l : Addr} {vs : List Value} {ns : List Int} {nn : Nat} {led : List (Addr × Obj)} {m₀ : Str → Option Value} {b r : Int} {t0 t1 : Tok} (_ : b < 35) (_ : r < 70)
    (hh : A.handled = none) (hl : (l, listOf vs.toArray nn) ∈ led) (hi : IntsAre vs ns) (F : Fr h₀ env.locals s.heap m₀) (N : News h₀ env.locals s.heap led) (hk : ∀ p ∈ [(Str.ofString "due", Value.int 0 t0), (Str.ofString "weight", Value.int 1 t1)], m₀ p.1 = some p.2) (hr0 : 0 ≤ r)
    (turn : ∀ (c : Int × Int × Tok × Tok) pre n t (u : Str → Option Value) h tk own, n ∈ ns → DueInv (2 + b) (1 + r).toNat pre c.1 c.2.1 →
      Fr h₀ env.locals h (fun y => if y = x then some (.int n t) else kstB (fun z => if ([] : List Str).contains z then u z else m₀ z) [(Str.ofString "due", Value.int c.1 c.2.2.1), (Str.ofString "weight", Value.int c.2.1 c.2.2.2)] y) → News h₀ env.locals h (led ++ own) →
      wpAny (model prog w) A (execs body env) (EPost Q (FEnd h₀ env.locals { s with heap := h, toks := tk } x (fun c : Int × Int × Tok × Tok => [(Str.ofString "due", Value.int c.1 c.2.2.1), (Str.ofString "weight", Value.int c.2.1 c.2.2.2)]) m₀ (fun c => DueInv (2 + b) (1 + r).toNat (pre ++ [n]) c.1 c.2.1) (led ++ own))) E { s with heap := h, toks := tk })
    (done : ∀ (c : Int × Int × Tok × Tok) (u : Str → Option Value) h tk, DueInv (2 + b) (1 + r).toNat ns c.1 c.2.1 → Fr h₀ env.locals h (fun y => if y = x then u y else kstB (fun z => if ([] : List Str).contains z then u z else m₀ z) [(Str.ofString "due", Value.int c.1 c.2.2.1), (Str.ofString "weight", Value.int c.2.1 c.2.2.2)] y) → News h₀ env.locals h led → Q .next { s with heap := h, toks := tk }) :
    wpAny (model prog w) A (pyIter (.ref l)) (fun it s₂ => LoopAtV prog w A h₀ env x body Q E it s₂) E s :=
  my_for (σ := Int × Int × Tok × Tok) (fun c => [(Str.ofString "due", Value.int c.1 c.2.2.1), (Str.ofString "weight", Value.int c.2.1 c.2.2.2)]) (fun pre c => DueInv (2 + b) (1 + r).toNat pre c.1 c.2.1) (0, 1, t0, t1) hh hl hi F N hk (due_start _ _ (by omega)) turn done
section
variable {w : World} {p : Program} {loose : List Str} {mean : ExcName → Option Value} {mg mb : Str → Option Value}
  {dp un : Nat} {gd : Option (List Code)} {cn : Str} {cs : Scope} {a : Addr} {ccd : Value} {cl : List (Str × Addr)} {outer : List Env} {A₀ : Around} {base₀ h₀ : Heap} {L : Addr} {m : Str → Option Value} {news : List (Addr × Obj)} {s : Shared} {Q E : Value → Shared → Prop}
theorem brought_use {n k : Int} {tn tk : Tok} (B : Below A₀ base₀ outer h₀) (F : Fr h₀ L s.heap m) (X : (Mine.hd.heap_39 w.params).In h₀) (N : News h₀ L s.heap news) (T : Top p loose mean mg mb h₀) (hk : cs.kind = .function) (h0 : 1 ≤ k) (h1 : k ≤ 70) (hd : dp + 1 < recursionLimit) (hu : un + 8 < cLine)
    (ret : ∀ t h' tk', Fr h₀ L h' m → News h₀ L h' news → Q (.int (wrapF n k) t) { s with heap := h', toks := tk' }) :
    wpAny (model PySem.Challenge.rw_pq0675_01.row.prog w) (ktrTop dp un gd cn cs L a ccd cl outer) (call (.ref 120) [.int n tn, .int k tk]) Q E s :=
  brought_ok w p loose mean mg mb news n tn k tk _ _ _ _ _ _ _ _ _ _ _ _ _ _ _ _ _ B F X N T hk ⟨h0, h1⟩ hd hu ret
end
local macro_rules | `(tactic| walk_at "EPost") => `(tactic| (dsimp only [EPost]))
local macro_rules | `(tactic| walk_at "exec For Name Subscript") => `(tactic| k_dflt ((rename Fr _ _ _ _ => lF'); (with_unfolding_all refine' For_invVF lF' ?k1 ?k2 ?_; (case k1 => exact rfl); (case k2 => exact rfl); k_whole)))
local macro_rules | `(tactic| walk_at "pyIter ref") => `(tactic| ((with_reducible show wpAny _ _ (pyIter (Value.ref _)) (fun it s₂ => LoopAtV _ _ _ _ _ _ _ _ _ it s₂) _ _); k_dflt (k_extra "floop")))
local macro_rules | `(tactic| walk_at "call ref") => `(tactic| (k_here; (with_reducible show wpAny _ _ (call (Value.ref 85) _) _ _ _); k_dflt (k_extra "rd")))
local macro_rules | `(tactic| walk_at "call ref") => `(tactic| (k_here; (with_reducible show wpAny _ _ (call (Value.ref 99) _) _ _ _); k_dflt (k_extra "tib")))
local macro_rules | `(tactic| walk_at "call ref") => `(tactic| (k_here; (with_reducible show wpAny _ _ (call (Value.ref 120) _) _ _ _); k_dflt (refine' brought_use ?k1 ?k2 ?k3 ?k4 ?k5 ?kK ?k6 ?k7 ?kd ?ku ?_; (case k1 => k_asm); (case k2 => k_asm); (case k3 => k_asm); (case k4 => k_asm); (case k5 => k_asm); (case kK => first | exact rfl | assumption); (case k6 => omega); (case k7 => omega); (case kd => ktr_room); (case ku => ktr_units); intro t9 h9 tk9 F9 N9; (try dsimp only); (try k_fold))))
local macro_rules | `(tactic| walk_at "call ref") => `(tactic| (k_here; (with_reducible show wpAny _ _ (call (Value.ref 113) _) _ _ _); k_dflt (k_extra "oct")))
local macro_rules | `(tactic| walk_at "subscriptTail") => `(tactic| ((with_reducible show wpAny _ _ (subscriptTail (PySem.Expr.List _ _) _ (Value.ref _) (Value.int _ _)) _ _ _); k_dflt (k_extra "pick")))
local macro_rules | `(tactic| walk_at "eval IfExp") => `(tactic| ((fail_if_success (rename KPfMark => hM9)); k_dflt (k_extra "ifx")))
local macro_rules | `(tactic| walk_at "call type:bytes") => `(tactic| (k_dflt (k_extra "mkb")))
local macro_rules | `(tactic| walk_at "BCut") => `(tactic| (k_dflt (k_extra "bcut")))
local macro_rules | `(tactic| walk_at "call ref") => `(tactic| (k_here; (with_reducible show wpAny _ _ (call (Value.ref 106) _) _ _ _); k_dflt (refine' next_use ?k1 ?k2 ?k3 ?k4 ?k5 ?kK ?k6 ?k7 ?k8 ?k9 ?k10 ?k11 ?k12 ?k13 ?k14 ?kd ?ku ?_; (case k1 => k_asm); (case k2 => k_asm); (case k3 => k_asm); (case k4 => k_asm); (case k5 => k_asm); (case kK => first | exact rfl | assumption); (case k6 => k_updF); (case k7 => k_mem); (case k8 => assumption); (case k9 => omega); (case k10 => k_ne); (case k11 => omega); (case k12 => omega); (case k13 => omega); (case k14 => omega); (case kd => ktr_room); (case ku => ktr_units); intro r9 t9 tt9 h9 tk9 lo9 hi9 F9 N9; (try dsimp only at N9); (try dsimp only); (try k_fold))))
local macro_rules | `(tactic| walk_at "CompSrc") => `(tactic| k_dflt (k_extra "mysrc"))
set_option maxRecDepth 100000 in
set_option maxHeartbeats 8000000 in
theorem law_holds : PySem.Challenge.rw_pq0675_01.Holds := Mine.hd (by
  k_with_none
  k_with "mysrc" => (
    (rename (_ : Int) < 35 => hb35)
    (rename PySem.Obj.data _ = Data.cell (some (Value.ref _)) => hfd)
    (refine' LCg.CompSrc.range (by rfl) (by k_asm) (by k_asm) (by assumption) (small_one (by omega) (by omega) (by omega) (by omega)) (rangeSize_nat _ _) (by rw [PySem.sizeLine_eq]; omega) ?_)
    intro g'
    (refine' comp_ind35 hb35 hfd ?kU ?_ ?_)
    (case kU => k_updF)
    (intro i tt ys R v I oI C oC D m₂ h tk E' hiN hP hNs hmx F1 N1 off ne hR)
    (obtain ⟨tv, rfl⟩ := hP)
    (try dsimp only at N1)
    (try dsimp only at off)
    (try dsimp only at hR)
    (simp only [LCg.Off3, and_true] at off)
    rotate_left
    (intro ys ds tt hys hdl hds)
    (try dsimp only)
    rotate_left
    (all_goals (try k_fold)))
  k_with "ifx" => (
    (rename (_ : Int) < 35 => hb35)
    (rename Fr _ _ _ _ => cF'); (rename News _ _ _ _ => cN')
    (refine' cut35 hb35 cF' cN' (fun hM' => ?_) ?_)
    rotate_left
    (intro x9 kx9 t9 h9 tk9 hx9 hP9 F9 N9)
    (obtain ⟨hst9, hxl9⟩ := hP9)
    rotate_left
    (all_goals (try k_fold)))
  k_with "mkb" => (
    (refine' bytes_one ?k1 ?k2 ?k3 ?k4 ?k5 ?_)
    (case k1 => k_asm); (case k2 => k_asm); (case k3 => rfl); (case k4 => k_mem)
    (case k5 => (rw [sgn_eq]; exact sgn_in (by omega) (by omega)))
    (intro b9 t9 h9 tk9 hb9 F9 N9)
    (rw [sgn_eq] at hb9))
  k_with "bcut" => (
    (refine' bcut_end ?k1 ?k2 ?k3 ?k4 ?k5)
    (case k1 => assumption)
    (case k2 => assumption)
    (case k3 => (intro p9 h9; (repeat (first | exact h9 | refine List.Mem.tail _ ?_))))
    (case k4 => first | assumption | exact KBw.ints_list _)
    (case k5 => first
      | exact ⟨Or.inl (by decide), by decide⟩
      | exact stop_one (by omega) (by omega) (by omega)))
  k_with "pick" => (
    (first
      | (rename (_ : Int) < 35 => hb35
         refine' pick_bytes (P := fun ks => ks.length ≤ 2) ?k1 ?k2 ?k3 ?k4 ?k5 ?k6 ?_
         (case k1 => k_asm); (case k2 => k_mem); (case k3 => omega); (case k4 => (simp only [List.length_cons, List.length_nil]; omega)); (case k5 => exact Nat.le_of_ble_eq_true rfl)
         (case k6 => exact List.forall_mem_cons.mpr ⟨⟨_, _, _, rfl, KBw.ints_list _, by decide⟩, List.forall_mem_cons.mpr ⟨⟨_, _, _, rfl, KBw.ints_list _, by decide⟩, List.forall_mem_cons.mpr ⟨⟨_, _, _, rfl, KBw.ints_list _, by decide⟩, List.forall_mem_nil _⟩⟩⟩)
         (intro ba ka ta hba hka))
      | (refine' pick_bytes (P := fun ks => stopAt (2 + _) ks ∧ ks.length ≤ 2) ?k1 ?k2 ?k3 ?k4 ?k5 ?k6 ?_
         (case k1 => k_asm); (case k2 => k_mem); (case k3 => omega); (case k4 => (simp only [List.length_cons, List.length_nil]; omega)); (case k5 => exact Nat.le_of_ble_eq_true rfl)
         (case k6 => exact List.forall_mem_cons.mpr ⟨⟨_, _, _, rfl, KBw.ints_list _, trivial, by decide⟩, List.forall_mem_cons.mpr ⟨⟨_, _, _, rfl, KBw.ints_list _, Or.inl (by decide), by decide⟩, List.forall_mem_cons.mpr ⟨⟨_, _, _, rfl, KBw.ints_list _, Or.inl (by decide), by decide⟩, List.forall_mem_cons.mpr ⟨⟨_, _, _, rfl, by assumption, by assumption, by assumption⟩, List.forall_mem_nil _⟩⟩⟩⟩)
         (intro bb kb tb hbb hkb; obtain ⟨hkb, hkbl⟩ := hkb))))
  k_with "oct" => (
    (rename IntsAre _ (List.flatten _) => hxI)
    (rename (_ : Int) < 35 => hb35)
    (have hxF := xs_facts hxI hdl hds hb35 (by assumption) (by assumption) (by assumption) (by assumption))
    (obtain ⟨hx1, hx2, hx3, hx4⟩ := hxF)
    (refine' octets_use ?k1 ?k2 ?k3 ?k4 ?k5 ?kK ?k6 hxI hx2 hx4 ?kd ?ku ?_)
    (case k1 => k_asm); (case k2 => k_asm); (case k3 => k_asm); (case k4 => k_asm); (case k5 => k_asm); (case kK => first | exact rfl | assumption); (case k6 => k_mem)
    (case kd => ktr_room); (case ku => ktr_units)
    (intro bo os to ho tko hbo hos hosl Fo No)
    (try k_fold))
  k_with "floop" => (
    (rename IntsAre _ (List.reverse _) => hrI)
    (rename (_ : Int) < 35 => hb35)
    (rename (_ : Int) < 70 => hw70)
    (rename Fr _ _ _ _ => lF'); (rename News _ _ _ _ => lN')
    (refine' my_for35 hb35 hw70 rfl ?k1 hrI lF' lN' ?k2 (by omega) ?_ ?_)
    (case k1 => k_mem)
    (case k2 => kst_all)
    clear lF' lN'
    (rintro ⟨d, g, td, tg⟩ pre n t u h tk own hn hp F1 N1)
    (have hn2 := hx2 n (List.mem_reverse.mp hn))
    (obtain ⟨hn0, hn1⟩ := hn2)
    (dsimp only [kstB] at F1); (dsimp only at hp); (try dsimp only [List.cons_append, List.nil_append] at N1)
    rotate_left
    clear lF' lN'
    (rintro ⟨d, g, td, tg⟩ u h tk hdue F1 N1)
    (dsimp only [kstB] at F1); (dsimp only at hdue)
    rotate_left
    (all_goals (try k_fold)))
  k_with "rd" => (
    (rename (_ : Int) < 35 => hb35)
    (rename (_ : Int) < 70 => hw70)
    (refine' read_use ?k1 ?k2 ?k3 ?k4 ?k5 ?kK ?k6 ?k7 ?k8 ?k9 ?k10 ?k11 ?k12 ?k13 ?k14 ?kd ?ku ?_)
    (case k1 => k_asm); (case k2 => k_asm); (case k3 => k_asm); (case k4 => k_asm); (case k5 => k_asm); (case kK => first | exact rfl | assumption)
    (case k6 => first | assumption | exact KBw.ints_list _)
    (case k7 => first | exact rd_first hos (by omega) hx1 hkb hdue (by assumption) | exact dash_go | exact rd_end (by simp only [List.length_append] <;> omega))
    (case k8 => first | (simp only [List.length_append]; omega) | decide)
    (case k9 => omega); (case k10 => omega); (case k11 => omega); (case k12 => omega)
    (case k13 => omega)
    (case k14 => first | omega | (simp only [List.length_append]; omega) | decide)
    (case kd => ktr_room); (case ku => ktr_units)
    (intro x9 t9 u9 h9 tk9 F9 N9 l9)
    (simp only [List.forall_mem_cons] at l9)
    (try dsimp only at l9)
    (try dsimp only)
    (try k_fold))
  k_with "tib" => (
    (rename (_ : Int) < 35 => hb35)
    (rename (_ : Int) < 70 => hw70)
    (first
      | (refine' tibp_use ?k1 ?k2 ?k3 ?k4 ?k5 ?kK ?k6 hos hx1 hx3 hx4 hdue ?k9 ?k10 ?k11 ?k12 ?k13 ?k14 ?k15 ?kd ?ku ?_
         (case k6 => assumption))
      | (refine' tibs_use ?k1 ?k2 ?k3 ?k4 ?k5 ?kK ?k6 hos hx1 hx3 hx4 hdue ?k9 ?k10 ?k11 ?k12 ?k13 ?k14 ?k15 ?kd ?ku ?_
         (case k6 => assumption)))
    (case k1 => k_asm); (case k2 => k_asm); (case k3 => k_asm); (case k4 => k_asm); (case k5 => k_asm); (case kK => first | exact rfl | assumption)
    (case k9 => omega); (case k10 => omega); (case k11 => omega); (case k12 => omega)
    (case k13 => k_mem); (case k14 => k_mem); (case k15 => k_get)
    (case kd => ktr_room); (case ku => ktr_units)
    (intro t9 h9 tk9 F9 N9)
    (try dsimp only)
    (try k_fold))
  w_strict (
    k_go0; (all_goals try k_fold); k_steps
    all_goals first
      | exact hR _ _ _ (by assumption) (by assumption)
      | (skip
         refine f_end (_, _, _, _) (by assumption) (by assumption) (fun p hp => hp) (by kst_all) ?_ (due_step hp)
         intro z h1 h2
         have hd := h2 _ (.head _)
         have hw := h2 _ (.tail _ (.head _))
         exact (if_neg hw).trans ((if_neg hd).trans ((if_neg h1).trans ((if_neg hd).trans ((if_neg hw).trans (if_neg (by simp)))))))))
end Mine
theorem PySem.Challenge.cw_pq0675_01_holds : PySem.Challenge.rw_pq0675_01.Holds :=
  Mine.law_holds
