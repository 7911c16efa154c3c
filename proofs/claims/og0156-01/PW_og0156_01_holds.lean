import PyProof.Rows.All
import Wide.All
import OpenK.AllK
import Wide.FinOn
import Lean
import PySem.Challenge.RW_og0156_01
open PySem PySem.W PyProof.Rows
set_option Elab.async false
set_option maxRecDepth 100000
set_option linter.unusedVariables false
set_option rowWalk.seconds 0
set_option compiler.extract_closed false
namespace Mine
def view_ : Program := { PySem.Challenge.pw_og0156_01 with main := { PySem.Challenge.pw_og0156_01.main with body := PySem.Challenge.pw_og0156_01.main.body.filter fun s => match s with | .Assign .. => false | _ => true } }
theorem pick {r : OpenRow} {q : Program} {loose : List Str} {XP : (Str → Option Value) → Heap → Prop} {YP : World → Heap → Prop} {d : DefRec} {kwd : List (Str × Expr)}
    (hdef : defOf q r.name = some (d, kwd)) (hw : True) (h : r.Holds ∧ WalkO q loose XP YP r.toRowW d kwd fun f vs => PySem.call f vs) : r.Holds := h.1
section
local macro_rules | `(tactic| w_witness2) => `(tactic| trivial)
local macro_rules | `(tactic| o_head $H) => `(tactic| refine pick (q := view_) (loose := [PySem.Str.ofString "PaperError"]) (XP := XL view_ []) (YP := Hook.says $H) (by rfl) ?hw ?hc)
set_option maxHeartbeats 8000000 in
open_top hd for PySem.Challenge.rw_og0156_01.row
end
/-- what the head wants walked -/
def Walk {A B C : Prop} (_ : A ∧ B → C) : Prop := B
theorem walk_of {A B C : Prop} (h : A ∧ B → C) (b : B) : Walk h := b
end Mine
namespace Mine
/-- the normal form of a decimal: trailing noughts struck -/
def nrm : Int → Nat → Int × Nat
  | t, 0 => (t, 0)
  | t, n + 1 => if t % 10 = 0 then nrm (t / 10) n else (t, n + 1)
abbrev Led := List (Addr × Obj)

/-- a call of f upon vs over the ledger news: it comes back with the ledger grown by tl -/
def Tell (w : World) (n : Nat) (f : Addr) (vs : List Value) (news : Led) (Post : Value → Led → Prop) : Prop :=
  ∀ (dp un : Nat) (gd : Option (List Code)) (cn : Str) (cs : Scope) (a : Addr) (ccd : Value) (cl : List (Str × Addr)) (outer : List Env) (A₀ : Around) (base h₀ : Heap) (L : Addr) (m : Str → Option Value) (s : Shared)
    (mean : ExcName → Option Value) (mg mb : Str → Option Value) (Q E : Value → Shared → Prop),
    Below A₀ base outer h₀ → Fr h₀ L s.heap m → (hd.heap_1 w.params).In h₀ → News h₀ L s.heap news → Top view_ (looseW view_ [Str.ofString "PaperError"]) mean mg mb h₀ → cs.kind = .function →
    dp + 4 * n < recursionLimit → un + 32 * n < cLine →
    (∀ r tl h' tk', Fr h₀ L h' m → News h₀ L h' (tl ++ news) → (∀ q ∈ news, ∀ p ∈ tl, q.1 < p.1) → Post r tl → Q r { s with heap := h', toks := tk' }) →
    wpAny (model PySem.Challenge.rw_og0156_01.row.prog w) (ktrTop dp un gd cn cs L a ccd cl outer) (call (.ref f) vs) Q E s

abbrev decD (w : World) (t p : Int) (k1 k2 tt tp : Tok) : Obj :=
  dictOf [⟨PyData.keyHash w.params "top", .str "top" k1, .int t tt⟩, ⟨PyData.keyHash w.params "places", .str "places" k2, .int p tp⟩] 2

/-- a decimal, bounded -/
def OkB (B P : Nat) (d : Int × Nat) : Prop := Builtin.Int.intBits d.1 ≤ B ∧ d.2 ≤ P
abbrev Ok (d : Int × Nat) : Prop := OkB 10000 1000 d
theorem OkB.up {B P B' P' : Nat} {d : Int × Nat} (h : OkB B P d) (hB : B ≤ B') (hP : P ≤ P') : OkB B' P' d := ⟨Nat.le_trans h.1 hB, Nat.le_trans h.2 hP⟩
/-- a decimal stands in the ledger -/
def DecIn (w : World) (news : Led) (x : Addr) (d : Int × Nat) : Prop :=
  ∃ dx k1 k2 tt tp, (x, instObj 143 dx) ∈ news ∧ (dx, decD w d.1 d.2 k1 k2 tt tp) ∈ news
/-- a fresh decimal -/
def DecNew (w : World) (d : Int × Nat) (r : Value) (tl : Led) : Prop :=
  ∃ x dx k1 k2 tt tp, r = .ref x ∧ tl = [(x, instObj 143 dx), (dx, decD w d.1 d.2 k1 k2 tt tp)]
theorem decIn_of {w : World} {news : Led} {d : Int × Nat} {x dx : Addr} {k1 k2 k3 k4 : Tok} (h1 : (x, instObj 143 dx) ∈ news) (h2 : (dx, decD w d.fst (↑d.snd) k1 k2 k3 k4) ∈ news) : DecIn w news x d := ⟨_, _, _, _, _, h1, h2⟩
theorem decNew_intro {w : World} {d : Int × Nat} {t' p' : Int} {x dx : Addr} {k1 k2 tt tp : Tok} (h1 : t' = d.1) (h2 : p' = d.2) :
    DecNew w d (.ref x) [(x, instObj 143 dx), (dx, decD w t' p' k1 k2 tt tp)] := by
  subst h1; subst h2; exact ⟨x, dx, k1, k2, tt, tp, rfl, rfl⟩
theorem decNew_of {w : World} {d d' : Int × Nat} {x dx : Addr} {k1 k2 tt tp : Tok} (h : d' = d) :
    DecNew w d (.ref x) [(x, instObj 143 dx), (dx, decD w d'.1 d'.2 k1 k2 tt tp)] := by
  subst h; exact ⟨x, dx, k1, k2, tt, tp, rfl, rfl⟩
theorem ord_two {news : Led} {x dx : Addr} {o o' : Obj} (h : AllLt dx news) (h2 : dx < x) : ∀ q ∈ news, ∀ p ∈ [(x, o), (dx, o')], q.1 < p.1 := by
  intro q hq p hp
  have := ktn_ltOf h q hq
  simp only [List.mem_cons, List.not_mem_nil, or_false] at hp
  rcases hp with rfl | rfl
  · exact Nat.lt_trans this h2
  · exact this
theorem tell_use {w : World} {n : Nat} {f : Addr} {vs : List Value} {news : Led} {Post : Value → Led → Prop} (C : Tell w n f vs news Post) {dp un : Nat} {gd : Option (List Code)} {cn : Str} {cs : Scope} {a : Addr} {ccd : Value} {cl : List (Str × Addr)} {outer : List Env} {A₀ : Around} {base h₀ : Heap} {L : Addr} {m : Str → Option Value} {s : Shared}
    {mean : ExcName → Option Value} {mg mb : Str → Option Value} {Q E : Value → Shared → Prop}
    (B : Below A₀ base outer h₀) (F : Fr h₀ L s.heap m) (X : (hd.heap_1 w.params).In h₀) (N : News h₀ L s.heap news) (T : Top view_ (looseW view_ [Str.ofString "PaperError"]) mean mg mb h₀) (hk : cs.kind = .function)
    (hd : dp + 4 * n < recursionLimit) (hu : un + 32 * n < cLine)
    (ret : ∀ r tl h' tk', Fr h₀ L h' m → News h₀ L h' (tl ++ news) → (∀ q ∈ news, ∀ p ∈ tl, q.1 < p.1) → Post r tl → Q r { s with heap := h', toks := tk' }) :
    wpAny (model PySem.Challenge.rw_og0156_01.row.prog w) (ktrTop dp un gd cn cs L a ccd cl outer) (call (.ref f) vs) Q E s :=
  C dp un gd cn cs a ccd cl outer A₀ base h₀ L m s mean mg mb Q E B F X N T hk hd hu ret

/-- what the end of a contract's walk shows -/
theorem fin_use {h₀ h' : Heap} {L : Addr} {m : Str → Option Value} {news big tl : Led} {Post : Value → Led → Prop} {Q : Value → Shared → Prop} {s : Shared} {r : Value} {tk' : Nat}
    (hret : ∀ r tl h' tk', Fr h₀ L h' m → News h₀ L h' (tl ++ news) → (∀ q ∈ news, ∀ p ∈ tl, q.1 < p.1) → Post r tl → Q r { s with heap := h', toks := tk' })
    (F : Fr h₀ L h' m) (N : News h₀ L h' (tl ++ big)) (hl : ∀ q ∈ big, ∀ p ∈ tl, q.1 < p.1) (hs : ∀ p ∈ news, p ∈ big) (post : Post r tl) : Q r { s with heap := h', toks := tk' } :=
  hret r tl h' tk' F (fun p hp => N p (by rcases List.mem_append.mp hp with h | h; exact List.mem_append.mpr (.inl h); exact List.mem_append.mpr (.inr (hs p h)))) (fun q hq => hl q (hs q hq)) post
theorem fin_none {h₀ h' : Heap} {L : Addr} {m : Str → Option Value} {news big : Led} {Post : Value → Led → Prop} {Q : Value → Shared → Prop} {s : Shared} {r : Value} {tk' : Nat}
    (hret : ∀ r tl h' tk', Fr h₀ L h' m → News h₀ L h' (tl ++ news) → (∀ q ∈ news, ∀ p ∈ tl, q.1 < p.1) → Post r tl → Q r { s with heap := h', toks := tk' })
    (F : Fr h₀ L h' m) (N : News h₀ L h' big) (hs : ∀ p ∈ news, p ∈ big) (post : Post r []) : Q r { s with heap := h', toks := tk' } :=
  hret r [] h' tk' F (fun p hp => N p (hs p hp)) (fun _ _ _ h => nomatch h) post

def dmul (a b : Int × Nat) : Int × Nat := nrm (a.1 * b.1) (a.2 + b.2)
def dneg (a : Int × Nat) : Int × Nat := nrm (-a.1) a.2
def up (a : Int × Nat) (k : Nat) : Int := a.1 * 10 ^ (k - a.2)
def dadd (a b : Int × Nat) : Int × Nat := nrm (up a (max a.2 b.2) + up b (max a.2 b.2)) (max a.2 b.2)
def dsub (a b : Int × Nat) : Int × Nat := nrm (up a (max a.2 b.2) - up b (max a.2 b.2)) (max a.2 b.2)
theorem mul_ok {a b : Int} (ha : Builtin.Int.intBits a ≤ 10000) (hb : Builtin.Int.intBits b ≤ 10000) : IntMulOk a b := PySem.IntMulOk.of_le ha hb (by decide)
theorem DecIn.mono {w : World} {l l' : Led} {x : Addr} {d : Int × Nat} (h : DecIn w l x d) (hs : ∀ p ∈ l, p ∈ l') : DecIn w l' x d := by
  obtain ⟨dx, k1, k2, tt, tp, h1, h2⟩ := h
  exact ⟨dx, k1, k2, tt, tp, hs _ h1, hs _ h2⟩
theorem sub_app {a b l : Led} (h : ∀ p ∈ l, p ∈ b) : ∀ p ∈ l, p ∈ a ++ b := fun p hp => List.mem_append.mpr (.inr (h p hp))
theorem sub_cons {q : Addr × Obj} {b l : Led} (h : ∀ p ∈ l, p ∈ b) : ∀ p ∈ l, p ∈ q :: b := fun p hp => .tail _ (h p hp)
theorem sub_hd {a b : Led} : ∀ p ∈ a, p ∈ a ++ b := fun _ hp => List.mem_append.mpr (.inl hp)
theorem mem_in {q : Addr × Obj} {l : Led} (h : q ∈ l) : q ∈ l := h
theorem mem_tail {q r : Addr × Obj} {l : Led} (h : q ∈ l) : q ∈ r :: l := .tail _ h
theorem mem_l {q : Addr × Obj} {l r : Led} (h : q ∈ l) : q ∈ l ++ r := List.mem_append.mpr (.inl h)
theorem mem_r {q : Addr × Obj} {l r : Led} (h : q ∈ r) : q ∈ l ++ r := List.mem_append.mpr (.inr h)
theorem isl {h₀ h : Heap} {L a : Addr} {news : Led} {its : Array Value} {n : Nat} (N : News h₀ L h news) (hm : (a, listOf its n) ∈ news) : h.IsList a its := PySem.IsL.isList (N.get hm)
theorem tell_use2 {w : World} {n : Nat} {f : Addr} {vs : List Value} {news : Led} {Post : Value → Led → Prop} {dp un : Nat} {gd : Option (List Code)} {cn : Str} {cs : Scope} {a : Addr} {ccd : Value} {cl : List (Str × Addr)} {outer : List Env} {A₀ : Around} {base h₀ : Heap} {L : Addr} {m : Str → Option Value} {s : Shared}
    {mean : ExcName → Option Value} {mg mb : Str → Option Value} {Q E : Value → Shared → Prop}
    (B : Below A₀ base outer h₀) (F : Fr h₀ L s.heap m) (X : (hd.heap_1 w.params).In h₀) (N : News h₀ L s.heap news) (T : Top view_ (looseW view_ [Str.ofString "PaperError"]) mean mg mb h₀) (hk : cs.kind = .function)
    (C : Tell w n f vs news Post) (hd : dp + 4 * n < recursionLimit) (hu : un + 32 * n < cLine)
    (ret : ∀ r tl h' tk', Fr h₀ L h' m → News h₀ L h' (tl ++ news) → (∀ q ∈ news, ∀ p ∈ tl, q.1 < p.1) → Post r tl → Q r { s with heap := h', toks := tk' }) :
    wpAny (model PySem.Challenge.rw_og0156_01.row.prog w) (ktrTop dp un gd cn cs L a ccd cl outer) (call (.ref f) vs) Q E s :=
  C dp un gd cn cs a ccd cl outer A₀ base h₀ L m s mean mg mb Q E B F X N T hk hd hu ret
local macro_rules | `(tactic| k_room) => `(tactic| ktr_room)
local macro_rules | `(tactic| mul_fits) => `(tactic| exact mul_ok (by assumption) (by assumption))
local macro_rules | `(tactic| ktr_units) => `(tactic| ((try simp only [units_under_make, units_in1, units_deeper, Around.mark_units, units_caller]); (try dsimp only [ktrTop]); (have hcL9 := cLine_is); omega))
local macro_rules | `(tactic| k_mem) => `(tactic| first | exact List.Mem.head _ | (refine mem_in ?_; ktr_member) | (refine mem_tail ?_; k_mem) | (refine mem_l ?_; ktr_member) | (refine mem_r ?_; k_mem))
local macro_rules | `(tactic| units_room) => `(tactic| ktr_units)
local macro_rules | `(tactic| is_list) => `(tactic| (refine' isl ?iN ?im; (case iN => k_asm); (case im => k_mem)))
theorem nrm_loop (t : Int) (p : Nat) (k : Int) (h1 : k ≤ p) (h0 : min (p : Int) 0 ≤ k)
    (hall : ∀ j : Int, k < j → j ≤ (p : Int) → (if 0 < j then if ((accDown (fun _ x => x.fdiv 10) (p : Int) t j).fmod 10 == 0) = true then true else false else false) = true)
    (hend : (if 0 < k then if ((accDown (fun _ x => x.fdiv 10) (p : Int) t k).fmod 10 == 0) = true then true else false else false) = false) :
    nrm t p = (accDown (fun _ x => x.fdiv 10) (p : Int) t k, k.toNat) := by
  have hk0 : 0 ≤ k := by omega
  have key : ∀ n : Nat, ∀ j : Int, j = (p : Int) - n → k ≤ j → nrm t p = nrm (accDown (fun _ x => x.fdiv 10) (p : Int) t j) j.toNat := by
    intro n
    induction n with
    | zero => intro j hj hkj; have : j = (p : Int) := by omega
              subst this; rw [accDown_start]; simp
    | succ n ih =>
      intro j hj hkj
      have e := ih (j + 1) (by omega) (by omega)
      have ht := hall (j + 1) (by omega) (by omega)
      have hs := accDown_succ (g := fun (_ : Int) (x : Int) => x.fdiv 10) (k₀ := (p : Int)) (k := j + 1) (x₀ := t) (by omega)
      rw [e]
      have e2 : (j + 1).toNat = j.toNat + 1 := by omega
      rw [e2, nrm]
      rw [if_pos (by omega : (0 : Int) < j + 1)] at ht
      have hm : (accDown (fun _ x => x.fdiv 10) (p : Int) t (j + 1)).fmod 10 = 0 := by
        by_cases hq : (accDown (fun _ x => x.fdiv 10) (p : Int) t (j + 1)).fmod 10 = 0
        · exact hq
        · exfalso; rw [if_neg (by simpa using hq)] at ht; cases ht
      rw [Int.fmod_eq_emod_of_nonneg _ (by decide)] at hm
      rw [if_pos hm]
      have e3 : j + 1 - 1 = j := by omega
      rw [e3] at hs
      rw [hs, Int.fdiv_eq_ediv_of_nonneg _ (by decide)]
  rw [key (p - k).toNat k (by omega) (Int.le_refl _)]
  cases hkn : k.toNat with
  | zero => rfl
  | succ n =>
    rw [nrm]
    rw [if_pos (by omega : (0 : Int) < k)] at hend
    rw [if_neg]
    intro hm
    rw [← Int.fmod_eq_emod_of_nonneg _ (by decide)] at hm
    rw [if_pos (by simpa using hm)] at hend
    cases hend

def NewDec (_ : OpenLaw) (w : World) (_ : Frag) : Prop := ∀ (t p : Int) (tt tp : Tok) (news : Led), 0 ≤ p → Tell w 1 143 [.int t tt, .int p tp] news (DecNew w (nrm t p.toNat))
set_option maxHeartbeats 8000000 in
theorem newDec (w : World) : NewDec PySem.Challenge.rw_og0156_01 w (hd.heap_1 w.params) := by
  k_fill
  unfold NewDec Tell
  intro t p tt tp news hp dp un gd cn cs a ccd cl outer A₀ base h₀ L m s mean mg mb Q E B F X N T hk hd hu hret
  obtain ⟨p, rfl⟩ := Int.eq_ofNat_of_zero_le hp
  rw [Int.toNat_natCast] at hret
  k_dflt (refine' call_cls ?k1 ?k2 ?k3 ?k4 ?k5 ?k6 ?_; (case k1 => k_asm); (case k2 => k_asm); (case k3 => k_asm); (case k4 => k_is); (case k5 => k_is); (case k6 => k_is); k_whole; intro x' d' h' F' N' l1 l2; (try k_lt l1); (try k_lt2 l2); (try k_sweep))
  k_dflt ktr_enter
  repeat' (first | (k_unfold; (try dsimp only)) | (k_end; wrow_close) | walk1 | (dsimp only; walk1) | (leave1; try dsimp only))
  rename_i k _ _ _ _ hA hB hC hD _ _ _ _ _ kF kN _ _
  have hn := nrm_loop t p k hA hB hC hD
  have hk0 : 0 ≤ k := by omega
  refine hret _ [_, _] _ _ (by assumption) kN (ord_two (allLt_of l1) l2) ?_
  refine decNew_intro ?_ ?_
  · rw [hn]
  · rw [hn]; exact (Int.toNat_of_nonneg hk0).symm
def DecTimes (_ : OpenLaw) (w : World) (_ : Frag) : Prop := ∀ (x y : Addr) (a b : Int × Nat) (news : Led), DecIn w news x a → DecIn w news y b → Ok a → Ok b → Tell w 3 84 [.ref x, .ref y] news (DecNew w (dmul a b))
set_option maxHeartbeats 8000000 in
theorem decTimes (w : World) : DecTimes PySem.Challenge.rw_og0156_01 w (hd.heap_1 w.params) := by
  k_fill
  unfold DecTimes Tell
  intro x y a b news hx hy oa ob dp un gd cn cs fa ccd cl outer A₀ base h₀ L m s mean mg mb Q E B F X N T hk hd hu hret
  obtain ⟨dx, ka1, ka2, kat, kap, hx1, hx2⟩ := hx
  obtain ⟨dy, kb1, kb2, kbt, kbp, hy1, hy2⟩ := hy
  obtain ⟨oa1, oa2⟩ := oa
  obtain ⟨ob1, ob2⟩ := ob
  refine wpAny_call ?_
  k_dflt ktr_enter
  repeat' (first | (k_unfold; (try dsimp only)) | (k_end; wrow_close) | (((with_reducible show wpAny _ _ (call (Value.ref _) _) _ _ _); first | (k_here; (with_reducible show wpAny _ _ (call (Value.ref 143) [Value.int _ _, Value.int _ _]) _ _ _); k_dflt (refine tell_use2 (by k_asm) (by k_asm) (by k_asm) (by k_asm) (by k_asm) (by first | exact rfl | assumption) (newDec _ _ _ _ _ _ (by omega)) (by ktr_room) (by ktr_units) ?_); intro r9 tl9 h9 tk9 F9 N9 hl9 ho9; obtain ⟨x9, dx9, k19, k29, tt9, tp9, er9, et9⟩ := ho9; subst er9; subst et9; (try simp only [List.cons_append, List.nil_append] at N9); (try k_sweep); (try k_fold)))) | walk1 | (dsimp only; walk1) | (leave1; try dsimp only))
  refine fin_use hret (tl := [_, _]) (by assumption) (by assumption) (by assumption) (fun _ h => h) (decNew_of ?_)
  have e : ((a.2 : Int) + (b.2 : Int)).toNat = a.2 + b.2 := by omega
  rw [e]; rfl
def sgn (t : Int) : Int := if t = 0 then 0 else if 0 < t then 1 else -1
def IntNew (n : Int) (r : Value) (tl : Led) : Prop := tl = [] ∧ ∃ tk, r = .int n tk
theorem intNew_of {n n' : Int} {tk : Tok} (h : n' = n) : IntNew n (.int n' tk) [] := ⟨rfl, tk, by rw [h]⟩
def SignOf (_ : OpenLaw) (w : World) (_ : Frag) : Prop := ∀ (t : Int) (tt : Tok) (news : Led), Tell w 1 154 [.int t tt] news (IntNew (sgn t))
set_option maxHeartbeats 8000000 in
theorem signOf (w : World) : SignOf PySem.Challenge.rw_og0156_01 w (hd.heap_1 w.params) := by
  k_fill
  unfold SignOf Tell
  intro t tt news dp un gd cn cs fa ccd cl outer A₀ base h₀ L m s mean mg mb Q E B F X N T hk hd hu hret
  refine wpAny_call ?_
  k_dflt ktr_enter
  repeat' (first | (k_unfold; (try dsimp only)) | (k_end; wrow_close) | walk1 | (dsimp only; walk1) | (leave1; try dsimp only))
  all_goals (refine fin_none hret (by assumption) (by assumption) (fun _ h => h) (intNew_of ?_); unfold sgn; (repeat' split) <;> omega)
theorem sgn_bits (t : Int) : Builtin.Int.intBits (sgn t) ≤ 64 := by unfold sgn; (repeat' split) <;> decide
local macro_rules | `(tactic| mul_fits) => `(tactic| exact PySem.IntMulOk.of_right (sgn_bits _))
def ab (t : Int) : Int := if t < 0 then -t else t
/-- the whole number nearest to t / b, half away from nought -/
def rq (t b : Int) : Int := (2 * ab t + ab b).fdiv (2 * ab b) * sgn t * sgn b
theorem ten_ne (k : Nat) : (10 : Int) ^ k ≠ 0 := Int.pow_ne_zero (by decide)
theorem ten_bits {k : Nat} (h : k ≤ 1000) : Builtin.Int.intBits ((10 : Int) ^ k) ≤ 4001 :=
  Nat.le_trans (intBits_pow_le (m := 4) (by decide) k) (by omega)
def RQ (_ : OpenLaw) (w : World) (_ : Frag) : Prop := ∀ (t b : Int) (tt tb : Tok) (news : Led), Builtin.Int.intBits b ≤ 8000 → b ≠ 0 → Tell w 2 161 [.int t tt, .int b tb] news (IntNew (rq t b))
theorem ab_bits {t : Int} {n : Nat} (h : Builtin.Int.intBits t ≤ n) : Builtin.Int.intBits (ab t) ≤ n := by
  unfold ab; split
  · exact PyProof.Rows.bits_neg h
  · exact h
theorem log_of_bits {t : Int} {n : Nat} (h : Builtin.Int.intBits t ≤ n) (hn : n < 9000) : t.natAbs.log2 < 9000 := by
  unfold Builtin.Int.intBits at h
  split at h
  · rename_i h0; rw [beq_iff_eq.mp h0]; decide
  · omega
local macro_rules | `(tactic| walk_at "binaryOp FloorDiv int int") => `(tactic| (k_here; refine floordiv_int (by assumption) ?_ (Or.inl (PyProof.noPylong_of_log2 (by assumption)))))
set_option maxHeartbeats 8000000 in
theorem roundedQ (w : World) : RQ PySem.Challenge.rw_og0156_01 w (hd.heap_1 w.params) := by
  k_fill
  unfold RQ Tell
  intro t b tt tb news hb hb0 dp un gd cn cs fa ccd cl outer A₀ base h₀ L m s mean mg mb Q E B F X N T hk hd hu hret
  have hlog : (2 * if b < 0 then -b else b).natAbs.log2 < 9000 := log_of_bits (n := 8002) (PyProof.Rows.bits_mul (m := 2) (by decide) (ab_bits hb)) (by decide)
  have hne : (2 * if b < 0 then -b else b) ≠ 0 := by split <;> omega
  refine wpAny_call ?_
  k_dflt ktr_enter
  repeat' (first | (k_unfold; (try dsimp only)) | (k_end; wrow_close) | (((with_reducible show wpAny _ _ (call (Value.ref _) _) _ _ _); first | (k_here; (with_reducible show wpAny _ _ (call (Value.ref 154) [Value.int _ _]) _ _ _); k_dflt (refine tell_use2 (by k_asm) (by k_asm) (by k_asm) (by k_asm) (by k_asm) (by first | exact rfl | assumption) (signOf _ _ _ _) (by ktr_room) (by ktr_units) ?_); intro r9 tl9 h9 tk9 F9 N9 hl9 ho9; obtain ⟨et9, k9, er9⟩ := ho9; subst er9; subst et9; clear hl9; (try simp only [List.cons_append, List.nil_append] at N9); (try k_sweep); (try k_fold)))) | walk1 | (dsimp only; walk1) | (leave1; try dsimp only))
  all_goals (refine fin_none hret (by assumption) (by assumption) (fun _ h => h) (intNew_of ?_); rfl)
def ScaleNew (a b : Int × Nat) (r : Value) (tl : Led) : Prop :=
  ∃ D t1 t2 t3 c, r = .ref D ∧ tl = [(D, ({ cls := .type "tuple", data := .seq #[.int (up a (max a.2 b.2)) t1, .int (up b (max a.2 b.2)) t2, .int (max a.2 b.2 : Nat) t3] c } : Obj))]
theorem scaleNew_of {a b : Int × Nat} {D : Addr} {t1 t2 t3 : Tok} {c : Nat} {e1 e2 e3 : Int} (h1 : e1 = up a (max a.2 b.2)) (h2 : e2 = up b (max a.2 b.2)) (h3 : e3 = (max a.2 b.2 : Nat)) :
    ScaleNew a b (.ref D) [(D, ({ cls := .type "tuple", data := .seq #[.int e1 t1, .int e2 t2, .int e3 t3] c } : Obj))] := by
  subst h1; subst h2; subst h3; exact ⟨D, t1, t2, t3, c, rfl, rfl⟩
def AtOneScale (_ : OpenLaw) (w : World) (_ : Frag) : Prop := ∀ (x y : Addr) (a b : Int × Nat) (news : Led), DecIn w news x a → DecIn w news y b → Ok a → Ok b → Tell w 3 175 [.ref x, .ref y] news (ScaleNew a b)
theorem mul_ten_ok {a : Int} {e : Int} (ha : Builtin.Int.intBits a ≤ 10000) (he : e ≤ 1000) : IntMulOk a (10 ^ e.toNat) := PySem.IntMulOk.of_le ha (ten_bits (by omega)) (by decide)
theorem ord_one {news : Led} {D : Addr} {o : Obj} (h : AllLt D news) : ∀ q ∈ news, ∀ p ∈ [(D, o)], q.1 < p.1 := ktn_ord1 h
local macro_rules | `(tactic| mul_fits) => `(tactic| (refine mul_ten_ok (by assumption) ?_; (try split) <;> omega))
set_option maxHeartbeats 8000000 in
theorem atOneScale (w : World) : AtOneScale PySem.Challenge.rw_og0156_01 w (hd.heap_1 w.params) := by
  k_fill
  unfold AtOneScale Tell
  intro x y a b news hx hy oa ob dp un gd cn cs fa ccd cl outer A₀ base h₀ L m s mean mg mb Q E B F X N T hk hd hu hret
  obtain ⟨dx, ka1, ka2, kat, kap, hx1, hx2⟩ := hx
  obtain ⟨dy, kb1, kb2, kbt, kbp, hy1, hy2⟩ := hy
  obtain ⟨oa1, oa2⟩ := oa
  obtain ⟨ob1, ob2⟩ := ob
  refine wpAny_call ?_
  k_dflt ktr_enter
  repeat' (first | (k_unfold; (try dsimp only)) | (k_end; wrow_close) | walk1 | (dsimp only; walk1) | (leave1; try dsimp only))
  refine fin_use hret (tl := [_]) (by assumption) (by assumption) (ktn_ord1 (by first | assumption | exact allLt_of (by assumption))) (fun _ h => h) (scaleNew_of ?_ ?_ ?_)
  · unfold up; congr 2; split <;> omega
  · unfold up; congr 2; split <;> omega
  · split <;> omega
def DecPlus (_ : OpenLaw) (w : World) (_ : Frag) : Prop := ∀ (x y : Addr) (a b : Int × Nat) (news : Led), DecIn w news x a → DecIn w news y b → Ok a → Ok b → Tell w 5 70 [.ref x, .ref y] news (DecNew w (dadd a b))
set_option maxHeartbeats 8000000 in
theorem decPlus (w : World) : DecPlus PySem.Challenge.rw_og0156_01 w (hd.heap_1 w.params) := by
  k_fill
  unfold DecPlus Tell
  intro x y a b news hx hy oa ob dp un gd cn cs fa ccd cl outer A₀ base h₀ L m s mean mg mb Q E B F X N T hk hd hu hret
  refine wpAny_call ?_
  k_dflt ktr_enter
  repeat' (first | (k_unfold; (try dsimp only)) | (k_end; wrow_close) | (((with_reducible show wpAny _ _ (call (Value.ref _) _) _ _ _); first | (k_here; (with_reducible show wpAny _ _ (call (Value.ref 175) [Value.ref _, Value.ref _]) _ _ _); k_dflt (refine tell_use2 (by k_asm) (by k_asm) (by k_asm) (by k_asm) (by k_asm) (by first | exact rfl | assumption) (atOneScale _ _ _ _ _ _ (by first | assumption | exact DecIn.mono (by assumption) (by repeat' (first | (with_reducible assumption) | (with_reducible exact (fun _ h => h)) | (with_reducible refine sub_cons ?_) | (with_reducible refine sub_app ?_))) | exact decIn_of (by k_mem) (by k_mem)) (by first | assumption | exact DecIn.mono (by assumption) (by repeat' (first | (with_reducible assumption) | (with_reducible exact (fun _ h => h)) | (with_reducible refine sub_cons ?_) | (with_reducible refine sub_app ?_))) | exact decIn_of (by k_mem) (by k_mem)) (by exact OkB.up (by ktr_rel) (by decide) (by decide)) (by exact OkB.up (by ktr_rel) (by decide) (by decide))) (by ktr_room) (by ktr_units) ?_); intro r9 tl9 h9 tk9 F9 N9 hl9 ho9; obtain ⟨D9, t19, t29, t39, c9, er9, et9⟩ := ho9; subst er9; subst et9; (try simp only [List.cons_append, List.nil_append] at N9); (try k_sweep); (try k_fold)) | (k_here; (with_reducible show wpAny _ _ (call (Value.ref 143) [Value.int _ _, Value.int _ _]) _ _ _); k_dflt (refine tell_use2 (by k_asm) (by k_asm) (by k_asm) (by k_asm) (by k_asm) (by first | exact rfl | assumption) (newDec _ _ _ _ _ _ (by omega)) (by ktr_room) (by ktr_units) ?_); intro r9 tl9 h9 tk9 F9 N9 hl9 ho9; obtain ⟨x9, dx9, k19, k29, tt9, tp9, er9, et9⟩ := ho9; subst er9; subst et9; (try simp only [List.cons_append, List.nil_append] at N9); (try k_sweep); (try k_fold)))) | walk1 | (dsimp only; walk1) | (leave1; try dsimp only))
  refine fin_use hret (tl := [_, _]) (by assumption) (by assumption) (by assumption) (fun _ h => List.mem_cons_of_mem _ h) (decNew_of ?_)
  rw [Int.toNat_natCast]; rfl
def DecMinus (_ : OpenLaw) (w : World) (_ : Frag) : Prop := ∀ (x y : Addr) (a b : Int × Nat) (news : Led), DecIn w news x a → DecIn w news y b → Ok a → Ok b → Tell w 5 77 [.ref x, .ref y] news (DecNew w (dsub a b))
set_option maxHeartbeats 8000000 in
theorem decMinus (w : World) : DecMinus PySem.Challenge.rw_og0156_01 w (hd.heap_1 w.params) := by
  k_fill
  unfold DecMinus Tell
  intro x y a b news hx hy oa ob dp un gd cn cs fa ccd cl outer A₀ base h₀ L m s mean mg mb Q E B F X N T hk hd hu hret
  refine wpAny_call ?_
  k_dflt ktr_enter
  repeat' (first | (k_unfold; (try dsimp only)) | (k_end; wrow_close) | (((with_reducible show wpAny _ _ (call (Value.ref _) _) _ _ _); first | (k_here; (with_reducible show wpAny _ _ (call (Value.ref 175) [Value.ref _, Value.ref _]) _ _ _); k_dflt (refine tell_use2 (by k_asm) (by k_asm) (by k_asm) (by k_asm) (by k_asm) (by first | exact rfl | assumption) (atOneScale _ _ _ _ _ _ (by first | assumption | exact DecIn.mono (by assumption) (by repeat' (first | (with_reducible assumption) | (with_reducible exact (fun _ h => h)) | (with_reducible refine sub_cons ?_) | (with_reducible refine sub_app ?_))) | exact decIn_of (by k_mem) (by k_mem)) (by first | assumption | exact DecIn.mono (by assumption) (by repeat' (first | (with_reducible assumption) | (with_reducible exact (fun _ h => h)) | (with_reducible refine sub_cons ?_) | (with_reducible refine sub_app ?_))) | exact decIn_of (by k_mem) (by k_mem)) (by exact OkB.up (by ktr_rel) (by decide) (by decide)) (by exact OkB.up (by ktr_rel) (by decide) (by decide))) (by ktr_room) (by ktr_units) ?_); intro r9 tl9 h9 tk9 F9 N9 hl9 ho9; obtain ⟨D9, t19, t29, t39, c9, er9, et9⟩ := ho9; subst er9; subst et9; (try simp only [List.cons_append, List.nil_append] at N9); (try k_sweep); (try k_fold)) | (k_here; (with_reducible show wpAny _ _ (call (Value.ref 143) [Value.int _ _, Value.int _ _]) _ _ _); k_dflt (refine tell_use2 (by k_asm) (by k_asm) (by k_asm) (by k_asm) (by k_asm) (by first | exact rfl | assumption) (newDec _ _ _ _ _ _ (by omega)) (by ktr_room) (by ktr_units) ?_); intro r9 tl9 h9 tk9 F9 N9 hl9 ho9; obtain ⟨x9, dx9, k19, k29, tt9, tp9, er9, et9⟩ := ho9; subst er9; subst et9; (try simp only [List.cons_append, List.nil_append] at N9); (try k_sweep); (try k_fold)))) | walk1 | (dsimp only; walk1) | (leave1; try dsimp only))
  refine fin_use hret (tl := [_, _]) (by assumption) (by assumption) (by assumption) (fun _ h => List.mem_cons_of_mem _ h) (decNew_of ?_)
  rw [Int.toNat_natCast]; rfl
def DecNeg (_ : OpenLaw) (w : World) (_ : Frag) : Prop := ∀ (x : Addr) (a : Int × Nat) (news : Led), DecIn w news x a → Tell w 5 91 [.ref x] news (DecNew w (dneg a))
set_option maxHeartbeats 8000000 in
theorem decNeg (w : World) : DecNeg PySem.Challenge.rw_og0156_01 w (hd.heap_1 w.params) := by
  k_fill
  unfold DecNeg Tell
  intro x a news hx dp un gd cn cs fa ccd cl outer A₀ base h₀ L m s mean mg mb Q E B F X N T hk hd hu hret
  obtain ⟨dx, ka1, ka2, kat, kap, hx1, hx2⟩ := hx
  refine wpAny_call ?_
  k_dflt ktr_enter
  repeat' (first | (k_unfold; (try dsimp only)) | (k_end; wrow_close) | (((with_reducible show wpAny _ _ (call (Value.ref _) _) _ _ _); first | (k_here; (with_reducible show wpAny _ _ (call (Value.ref 143) [Value.int _ _, Value.int _ _]) _ _ _); k_dflt (refine tell_use2 (by k_asm) (by k_asm) (by k_asm) (by k_asm) (by k_asm) (by first | exact rfl | assumption) (newDec _ _ _ _ _ _ (by omega)) (by ktr_room) (by ktr_units) ?_); intro r9 tl9 h9 tk9 F9 N9 hl9 ho9; obtain ⟨x9, dx9, k19, k29, tt9, tp9, er9, et9⟩ := ho9; subst er9; subst et9; (try simp only [List.cons_append, List.nil_append] at N9); (try k_sweep); (try k_fold)))) | walk1 | (dsimp only; walk1) | (leave1; try dsimp only))
  refine fin_use hret (tl := [_, _]) (by assumption) (by assumption) (by assumption) (fun _ h => h) (decNew_of ?_)
  rw [Int.toNat_natCast]; rfl
def TupNew (a : Int × Nat) (r : Value) (tl : Led) : Prop :=
  ∃ D t1 t2 c, r = .ref D ∧ tl = [(D, ({ cls := .type "tuple", data := .seq #[.int a.1 t1, .int a.2 t2] c } : Obj))]
def DecTold (_ : OpenLaw) (w : World) (_ : Frag) : Prop := ∀ (x : Addr) (a : Int × Nat) (news : Led), DecIn w news x a → Tell w 5 126 [.ref x] news (TupNew a)
set_option maxHeartbeats 8000000 in
theorem decTold (w : World) : DecTold PySem.Challenge.rw_og0156_01 w (hd.heap_1 w.params) := by
  k_fill
  unfold DecTold Tell
  intro x a news hx dp un gd cn cs fa ccd cl outer A₀ base h₀ L m s mean mg mb Q E B F X N T hk hd hu hret
  obtain ⟨dx, ka1, ka2, kat, kap, hx1, hx2⟩ := hx
  refine wpAny_call ?_
  k_dflt ktr_enter
  repeat' (first | (k_unfold; (try dsimp only)) | (k_end; wrow_close) | walk1 | (dsimp only; walk1) | (leave1; try dsimp only))
  exact fin_use hret (tl := [_]) (by assumption) (by assumption) (ktn_ord1 (by first | assumption | exact allLt_of (by assumption))) (fun _ h => h) ⟨_, _, _, _, rfl, rfl⟩
def dover (a b : Int × Nat) (k : Nat) : Int × Nat := nrm (rq (up a (max a.2 b.2) * 10 ^ k) (up b (max a.2 b.2))) k
def Over (_ : OpenLaw) (w : World) (_ : Frag) : Prop := ∀ (x y : Addr) (a b : Int × Nat) (k : Int) (tk : Tok) (news : Led), DecIn w news x a → DecIn w news y b → Ok a → Ok b → 0 ≤ k → k ≤ 20 →
  Builtin.Int.intBits (up a (max a.2 b.2)) ≤ 10000 → Builtin.Int.intBits (up b (max a.2 b.2)) ≤ 8000 → up b (max a.2 b.2) ≠ 0 → Tell w 5 182 [.ref x, .ref y, .int k tk] news (DecNew w (dover a b k.toNat))
local macro_rules | `(tactic| mul_fits) => `(tactic| (refine mul_ten_ok (by assumption) ?_; omega))
set_option maxHeartbeats 8000000 in
theorem over_ (w : World) : Over PySem.Challenge.rw_og0156_01 w (hd.heap_1 w.params) := by
  k_fill
  unfold Over Tell
  intro x y a b k tk news hx hy oa ob hk0 hk20 hba hbb hb0 dp un gd cn cs fa ccd cl outer A₀ base h₀ L m s mean mg mb Q E B F X N T hk hd hu hret
  refine wpAny_call ?_
  k_dflt ktr_enter
  repeat' (first | (k_unfold; (try dsimp only)) | (k_end; wrow_close) | (((with_reducible show wpAny _ _ (call (Value.ref _) _) _ _ _); first | (k_here; (with_reducible show wpAny _ _ (call (Value.ref 175) [Value.ref _, Value.ref _]) _ _ _); k_dflt (refine tell_use2 (by k_asm) (by k_asm) (by k_asm) (by k_asm) (by k_asm) (by first | exact rfl | assumption) (atOneScale _ _ _ _ _ _ (by first | assumption | exact DecIn.mono (by assumption) (by repeat' (first | (with_reducible assumption) | (with_reducible exact (fun _ h => h)) | (with_reducible refine sub_cons ?_) | (with_reducible refine sub_app ?_))) | exact decIn_of (by k_mem) (by k_mem)) (by first | assumption | exact DecIn.mono (by assumption) (by repeat' (first | (with_reducible assumption) | (with_reducible exact (fun _ h => h)) | (with_reducible refine sub_cons ?_) | (with_reducible refine sub_app ?_))) | exact decIn_of (by k_mem) (by k_mem)) (by exact OkB.up (by ktr_rel) (by decide) (by decide)) (by exact OkB.up (by ktr_rel) (by decide) (by decide))) (by ktr_room) (by ktr_units) ?_); intro r9 tl9 h9 tk9 F9 N9 hl9 ho9; obtain ⟨D9, t19, t29, t39, c9, er9, et9⟩ := ho9; subst er9; subst et9; (try simp only [List.cons_append, List.nil_append] at N9); (try k_sweep); (try k_fold)) | (k_here; (with_reducible show wpAny _ _ (call (Value.ref 161) [Value.int _ _, Value.int _ _]) _ _ _); k_dflt (refine tell_use2 (by k_asm) (by k_asm) (by k_asm) (by k_asm) (by k_asm) (by first | exact rfl | assumption) (roundedQ _ _ _ _ _ _ (by first | assumption | exact Nat.le_trans (ten_bits (by omega)) (by decide)) (by first | assumption | exact ten_ne _)) (by ktr_room) (by ktr_units) ?_); intro r9 tl9 h9 tk9 F9 N9 hl9 ho9; obtain ⟨et9, k9, er9⟩ := ho9; subst er9; subst et9; clear hl9; (try simp only [List.cons_append, List.nil_append] at N9); (try k_sweep); (try k_fold)) | (k_here; (with_reducible show wpAny _ _ (call (Value.ref 143) [Value.int _ _, Value.int _ _]) _ _ _); k_dflt (refine tell_use2 (by k_asm) (by k_asm) (by k_asm) (by k_asm) (by k_asm) (by first | exact rfl | assumption) (newDec _ _ _ _ _ _ (by omega)) (by ktr_room) (by ktr_units) ?_); intro r9 tl9 h9 tk9 F9 N9 hl9 ho9; obtain ⟨x9, dx9, k19, k29, tt9, tp9, er9, et9⟩ := ho9; subst er9; subst et9; (try simp only [List.cons_append, List.nil_append] at N9); (try k_sweep); (try k_fold)))) | walk1 | (dsimp only; walk1) | (leave1; try dsimp only))
  all_goals first
    | exact absurd (by assumption) hb0
    | (refine fin_use hret (tl := [_, _]) (by assumption) (by assumption) (by assumption) (fun _ h => List.mem_cons_of_mem _ h) (decNew_of ?_); rfl)
def dround (a : Int × Nat) (k : Nat) : Int × Nat := if a.2 ≤ k then a else nrm (rq a.1 (10 ^ (a.2 - k))) k
def Rounded (_ : OpenLaw) (w : World) (_ : Frag) : Prop := ∀ (x : Addr) (a : Int × Nat) (k : Int) (tk : Tok) (news : Led), DecIn w news x a → Ok a → 0 ≤ k →
  Tell w 5 119 [.ref x, .int k tk] news (fun r tl => ∃ z, r = .ref z ∧ DecIn w (tl ++ news) z (dround a k.toNat))
set_option maxHeartbeats 8000000 in
theorem rounded_ (w : World) : Rounded PySem.Challenge.rw_og0156_01 w (hd.heap_1 w.params) := by
  k_fill
  unfold Rounded Tell
  intro x a k tk news hx oa hk0 dp un gd cn cs fa ccd cl outer A₀ base h₀ L m s mean mg mb Q E B F X N T hk hd hu hret
  obtain ⟨dx, ka1, ka2, kat, kap, hx1, hx2⟩ := hx
  obtain ⟨oa1, oa2⟩ := oa
  refine wpAny_call ?_
  k_dflt ktr_enter
  repeat' (first | (k_unfold; (try dsimp only)) | (k_end; wrow_close) | (((with_reducible show wpAny _ _ (call (Value.ref _) _) _ _ _); first | (k_here; (with_reducible show wpAny _ _ (call (Value.ref 161) [Value.int _ _, Value.int _ _]) _ _ _); k_dflt (refine tell_use2 (by k_asm) (by k_asm) (by k_asm) (by k_asm) (by k_asm) (by first | exact rfl | assumption) (roundedQ _ _ _ _ _ _ (by first | assumption | exact Nat.le_trans (ten_bits (by omega)) (by decide)) (by first | assumption | exact ten_ne _)) (by ktr_room) (by ktr_units) ?_); intro r9 tl9 h9 tk9 F9 N9 hl9 ho9; obtain ⟨et9, k9, er9⟩ := ho9; subst er9; subst et9; clear hl9; (try simp only [List.cons_append, List.nil_append] at N9); (try k_sweep); (try k_fold)) | (k_here; (with_reducible show wpAny _ _ (call (Value.ref 143) [Value.int _ _, Value.int _ _]) _ _ _); k_dflt (refine tell_use2 (by k_asm) (by k_asm) (by k_asm) (by k_asm) (by k_asm) (by first | exact rfl | assumption) (newDec _ _ _ _ _ _ (by omega)) (by ktr_room) (by ktr_units) ?_); intro r9 tl9 h9 tk9 F9 N9 hl9 ho9; obtain ⟨x9, dx9, k19, k29, tt9, tp9, er9, et9⟩ := ho9; subst er9; subst et9; (try simp only [List.cons_append, List.nil_append] at N9); (try k_sweep); (try k_fold)))) | walk1 | (dsimp only; walk1) | (leave1; try dsimp only))
  all_goals first
    | (refine fin_none hret (by assumption) (by assumption) (fun _ h => h) ⟨x, rfl, ?_⟩
       have e : dround a k.toNat = a := if_pos (by omega)
       rw [e]
       exact ⟨_, _, _, _, _, hx1, hx2⟩)
    | (refine fin_use hret (tl := [_, _]) (by assumption) (by assumption) (by assumption) (fun _ h => h) ⟨_, rfl, ?_⟩
       have e : dround a k.toNat = nrm (rq a.1 (10 ^ ((a.2 : Int) - k).toNat)) k.toNat := by
         unfold dround
         rw [if_neg (by omega)]
         have e2 : ((a.2 : Int) - k).toNat = a.2 - k.toNat := by omega
         rw [e2]
       rw [e]
       exact ⟨_, _, _, _, _, .head _, .tail _ (.head _)⟩)
def ArgIn (w : World) (sub : Led) (v : Value) (d : Int × Nat) : Prop := (∃ t tt, v = .int t tt ∧ d = (t, 0)) ∨ (∃ x, v = .ref x ∧ DecIn w sub x d)
theorem ArgIn.mono {w : World} {l l' : Led} {v : Value} {d : Int × Nat} (h : ArgIn w l v d) (hs : ∀ p ∈ l, p ∈ l') : ArgIn w l' v d := h.imp id fun ⟨x, e, hx⟩ => ⟨x, e, hx.mono hs⟩
def DecOf (_ : OpenLaw) (w : World) (_ : Frag) : Prop := ∀ (v : Value) (d : Int × Nat) (sub news : Led), ArgIn w sub v d → (∀ p ∈ sub, p ∈ news) →
  Tell w 5 168 [v] news (fun r tl => ∃ z, r = .ref z ∧ DecIn w (tl ++ sub) z d)
set_option maxHeartbeats 8000000 in
theorem decOf (w : World) : DecOf PySem.Challenge.rw_og0156_01 w (hd.heap_1 w.params) := by
  k_fill
  unfold DecOf Tell
  intro v d sub news hv hsub dp un gd cn cs fa ccd cl outer A₀ base h₀ L m s mean mg mb Q E B F X N T hk hd hu hret
  rcases hv with ⟨t, tt, rfl, rfl⟩ | ⟨x, rfl, hx⟩
  · refine wpAny_call ?_
    k_dflt ktr_enter
    repeat' (first | (k_unfold; (try dsimp only)) | (k_end; wrow_close) | (((with_reducible show wpAny _ _ (call (Value.ref _) _) _ _ _); first | (k_here; (with_reducible show wpAny _ _ (call (Value.ref 143) [Value.int _ _, Value.int _ _]) _ _ _); k_dflt (refine tell_use2 (by k_asm) (by k_asm) (by k_asm) (by k_asm) (by k_asm) (by first | exact rfl | assumption) (newDec _ _ _ _ _ _ (by omega)) (by ktr_room) (by ktr_units) ?_); intro r9 tl9 h9 tk9 F9 N9 hl9 ho9; obtain ⟨x9, dx9, k19, k29, tt9, tp9, er9, et9⟩ := ho9; subst er9; subst et9; (try simp only [List.cons_append, List.nil_append] at N9); (try k_sweep); (try k_fold)))) | walk1 | (dsimp only; walk1) | (leave1; try dsimp only))
    refine fin_use hret (tl := [_, _]) (by assumption) (by assumption) (by assumption) (fun _ h => h) ⟨_, rfl, ?_⟩
    exact ⟨_, _, _, _, _, .head _, .tail _ (.head _)⟩
  · obtain ⟨dx, ka1, ka2, kat, kap, hx1, hx2⟩ := hx
    have hy1 := hsub _ hx1
    have hy2 := hsub _ hx2
    refine wpAny_call ?_
    k_dflt ktr_enter
    repeat' (first | (k_unfold; (try dsimp only)) | (k_end; wrow_close) | (((with_reducible show wpAny _ _ (call (Value.ref _) _) _ _ _); first | (k_here; (with_reducible show wpAny _ _ (call (Value.ref 143) [Value.int _ _, Value.int _ _]) _ _ _); k_dflt (refine tell_use2 (by k_asm) (by k_asm) (by k_asm) (by k_asm) (by k_asm) (by first | exact rfl | assumption) (newDec _ _ _ _ _ _ (by omega)) (by ktr_room) (by ktr_units) ?_); intro r9 tl9 h9 tk9 F9 N9 hl9 ho9; obtain ⟨x9, dx9, k19, k29, tt9, tp9, er9, et9⟩ := ho9; subst er9; subst et9; (try simp only [List.cons_append, List.nil_append] at N9); (try k_sweep); (try k_fold)))) | walk1 | (dsimp only; walk1) | (leave1; try dsimp only))
    exact fin_none hret (by assumption) (by assumption) (fun _ h => h) ⟨_, rfl, ⟨_, _, _, _, _, hx1, hx2⟩⟩
def DecOfRef (_ : OpenLaw) (w : World) (_ : Frag) : Prop := ∀ (x : Addr) (d : Int × Nat) (news : Led), DecIn w news x d → Tell w 5 168 [.ref x] news (fun r tl => r = .ref x ∧ tl = [])
set_option maxHeartbeats 8000000 in
theorem decOfRef (w : World) : DecOfRef PySem.Challenge.rw_og0156_01 w (hd.heap_1 w.params) := by
  k_fill
  unfold DecOfRef Tell
  intro x d news hx dp un gd cn cs fa ccd cl outer A₀ base h₀ L m s mean mg mb Q E B F X N T hk hd hu hret
  obtain ⟨dx, ka1, ka2, kat, kap, hx1, hx2⟩ := hx
  refine wpAny_call ?_
  k_dflt ktr_enter
  repeat' (first | (k_unfold; (try dsimp only)) | (k_end; wrow_close) | (((with_reducible show wpAny _ _ (call (Value.ref _) _) _ _ _); first | (k_here; (with_reducible show wpAny _ _ (call (Value.ref 143) [Value.int _ _, Value.int _ _]) _ _ _); k_dflt (refine tell_use2 (by k_asm) (by k_asm) (by k_asm) (by k_asm) (by k_asm) (by first | exact rfl | assumption) (newDec _ _ _ _ _ _ (by omega)) (by ktr_room) (by ktr_units) ?_); intro r9 tl9 h9 tk9 F9 N9 hl9 ho9; obtain ⟨x9, dx9, k19, k29, tt9, tp9, er9, et9⟩ := ho9; subst er9; subst et9; (try simp only [List.cons_append, List.nil_append] at N9); (try k_sweep); (try k_fold)))) | walk1 | (dsimp only; walk1) | (leave1; try dsimp only))
  exact fin_none hret (by assumption) (by assumption) (fun _ h => h) ⟨rfl, rfl⟩
structure Mat where
  a : Int × Nat
  b : Int × Nat
  c : Int × Nat
  d : Int × Nat
  e : Int × Nat
  f : Int × Nat
abbrev matD (w : World) (xa xb xc xd xe xf : Addr) (k1 k2 k3 k4 k5 k6 : Tok) : Obj :=
  dictOf [⟨PyData.keyHash w.params "a", .str "a" k1, .ref xa⟩, ⟨PyData.keyHash w.params "b", .str "b" k2, .ref xb⟩, ⟨PyData.keyHash w.params "c", .str "c" k3, .ref xc⟩,
    ⟨PyData.keyHash w.params "d", .str "d" k4, .ref xd⟩, ⟨PyData.keyHash w.params "e", .str "e" k5, .ref xe⟩, ⟨PyData.keyHash w.params "f", .str "f" k6, .ref xf⟩] 6
/-- a matrix stands in the ledger -/
def MatIn (w : World) (l : Led) (x : Addr) (M : Mat) : Prop :=
  ∃ dx xa xb xc xd xe xf k1 k2 k3 k4 k5 k6, (x, instObj 232 dx) ∈ l ∧ (dx, matD w xa xb xc xd xe xf k1 k2 k3 k4 k5 k6) ∈ l ∧
    DecIn w l xa M.a ∧ DecIn w l xb M.b ∧ DecIn w l xc M.c ∧ DecIn w l xd M.d ∧ DecIn w l xe M.e ∧ DecIn w l xf M.f
theorem MatIn.mono {w : World} {l l' : Led} {x : Addr} {M : Mat} (h : MatIn w l x M) (hs : ∀ p ∈ l, p ∈ l') : MatIn w l' x M := by
  obtain ⟨dx, xa, xb, xc, xd, xe, xf, k1, k2, k3, k4, k5, k6, h1, h2, ha, hb, hc, hd, he, hf⟩ := h
  exact ⟨dx, xa, xb, xc, xd, xe, xf, k1, k2, k3, k4, k5, k6, hs _ h1, hs _ h2, ha.mono hs, hb.mono hs, hc.mono hs, hd.mono hs, he.mono hs, hf.mono hs⟩
theorem upd_app {d : Addr} {o o' : Obj} {l l' : Led} : ∀ {tl : Led}, (∀ p ∈ tl, p.1 ≠ d) → Upd d o o' l l' → Upd d o o' (tl ++ l) (tl ++ l')
  | [], _, h => h
  | _ :: _, hn, h => .tail (hn _ (.head _)) (upd_app (fun p hp => hn p (.tail _ hp)) h)
theorem off_of {tl led : Led} {d : Addr} {o : Obj} (h : ∀ q ∈ led, ∀ p ∈ tl, q.1 < p.1) (hm : (d, o) ∈ led) : ∀ p ∈ tl, p.1 ≠ d := fun p hp => Nat.ne_of_gt (h _ hm p hp)
def Ord (news tl : Led) : Prop := ∀ q ∈ news, ∀ p ∈ tl, q.1 < p.1
theorem ord_of {led news tl : Led} (h : ∀ q ∈ led, ∀ p ∈ tl, q.1 < p.1) (hs : ∀ q ∈ news, q ∈ led) : Ord news tl := fun q hq => h q (hs q hq)
theorem ord_app {news a b : Led} (ha : Ord news a) (hb : Ord news b) : Ord news (a ++ b) := fun q hq p hp => (List.mem_append.mp hp).elim (ha q hq p) (hb q hq p)
theorem mat_end {w : World} {h₀ h' : Heap} {L : Addr} {news sub t1 t2 t3 t4 t5 t6 : Led} {x d' xa xb xc xd xe xf : Addr} {k1 k2 k3 k4 k5 k6 : Tok} {da db dc dd de df : Int × Nat}
    (N : News h₀ L h' (t6 ++ (t5 ++ (t4 ++ (t3 ++ (t2 ++ (t1 ++ (x, instObj 232 d') :: (d', matD w xa xb xc xd xe xf k1 k2 k3 k4 k5 k6) :: news)))))))
    (h1 : DecIn w (t1 ++ sub) xa da) (h2 : DecIn w (t2 ++ sub) xb db) (h3 : DecIn w (t3 ++ sub) xc dc) (h4 : DecIn w (t4 ++ sub) xd dd) (h5 : DecIn w (t5 ++ sub) xe de) (h6 : DecIn w (t6 ++ sub) xf df)
    (o1 : Ord news t1) (o2 : Ord news t2) (o3 : Ord news t3) (o4 : Ord news t4) (o5 : Ord news t5) (o6 : Ord news t6) (l1 : ∀ p ∈ news, p.1 < d') (l2 : d' < x) :
    ∃ tl : Led, News h₀ L h' (tl ++ news) ∧ (∀ q ∈ news, ∀ p ∈ tl, q.1 < p.1) ∧ MatIn w (tl ++ sub) x ⟨da, db, dc, dd, de, df⟩ := by
  refine ⟨t6 ++ (t5 ++ (t4 ++ (t3 ++ (t2 ++ (t1 ++ [(x, instObj 232 d'), (d', matD w xa xb xc xd xe xf k1 k2 k3 k4 k5 k6)]))))), ?_, ?_, ?_⟩
  · intro p hp
    refine N p ?_
    simp only [List.append_assoc, List.cons_append, List.nil_append] at hp
    exact hp
  · exact ord_app o6 (ord_app o5 (ord_app o4 (ord_app o3 (ord_app o2 (ord_app o1 (ord_two (allLt_of l1) l2))))))
  · refine ⟨d', xa, xb, xc, xd, xe, xf, k1, k2, k3, k4, k5, k6, ?_, ?_, h1.mono ?_, h2.mono ?_, h3.mono ?_, h4.mono ?_, h5.mono ?_, h6.mono ?_⟩
    · simp only [List.append_assoc, List.cons_append, List.nil_append, List.mem_append, List.mem_cons, true_or, or_true]
    · simp only [List.append_assoc, List.cons_append, List.nil_append, List.mem_append, List.mem_cons, true_or, or_true]
    all_goals
      intro p hp
      simp only [List.append_assoc, List.cons_append, List.nil_append, List.mem_append, List.mem_cons] at hp ⊢
      rcases hp with hp | hp <;> simp only [hp, true_or, or_true]
local macro_rules | `(tactic| k_upd) => `(tactic| (refine' upd_app ?a ?b; (case a => (refine' off_of ?h ?m; (case h => assumption); (case m => k_mem))); (case b => k_upd)))
def NewMat (_ : OpenLaw) (w : World) (_ : Frag) : Prop := ∀ (va vb vc vd ve vf : Value) (da db dc dd de df : Int × Nat) (sub news : Led), ArgIn w sub va da → ArgIn w sub vb db → ArgIn w sub vc dc → ArgIn w sub vd dd → ArgIn w sub ve de → ArgIn w sub vf df →
  (∀ p ∈ sub, p ∈ news) → Tell w 8 232 [va, vb, vc, vd, ve, vf] news (fun r tl => ∃ x, r = .ref x ∧ MatIn w (tl ++ sub) x ⟨da, db, dc, dd, de, df⟩)
set_option maxHeartbeats 8000000 in
theorem newMat (w : World) : NewMat PySem.Challenge.rw_og0156_01 w (hd.heap_1 w.params) := by
  k_fill
  unfold NewMat Tell
  intro va vb vc vd ve vf da db dc dd de df sub news ha hb hc hdd he hf hsub dp un gd cn cs fa ccd cl outer A₀ base h₀ L m s mean mg mb Q E B F X N T hk hd hu hret
  k_dflt (refine' call_cls ?k1 ?k2 ?k3 ?k4 ?k5 ?k6 ?_; (case k1 => k_asm); (case k2 => k_asm); (case k3 => k_asm); (case k4 => k_is); (case k5 => k_is); (case k6 => k_is); k_whole; intro x' d' h' F' N' l1 l2; (try k_lt l1); (try k_lt2 l2); (try k_sweep))
  k_dflt ktr_enter
  repeat' (first | (k_unfold; (try dsimp only)) | (k_end; wrow_close) | (((with_reducible show wpAny _ _ (call (Value.ref _) _) _ _ _); first | (k_here; (with_reducible show wpAny _ _ (call (Value.ref 168) [_]) _ _ _); k_dflt (refine tell_use2 (by k_asm) (by k_asm) (by k_asm) (by k_asm) (by k_asm) (by first | exact rfl | assumption) (decOf _ _ _ _ _ (by first | assumption | exact .inr ⟨_, rfl, by assumption⟩ | exact .inl ⟨_, _, rfl, rfl⟩) (by repeat' (first | (with_reducible assumption) | (with_reducible exact (fun _ h => h)) | (with_reducible refine sub_cons ?_) | (with_reducible refine sub_app ?_)))) (by ktr_room) (by ktr_units) ?_); intro r9 tl9 h9 tk9 F9 N9 hl9 ho9; obtain ⟨x9, er9, hin9⟩ := ho9; subst er9; (try simp only [List.nil_append, List.append_nil] at hin9); (try simp only [List.cons_append, List.nil_append] at N9); (try k_sweep); (try k_fold)))) | walk1 | (dsimp only; walk1) | (leave1; try dsimp only))
  obtain ⟨tl, NN, OO, MM⟩ := mat_end (da := da) (db := db) (dc := dc) (dd := dd) (de := de) (df := df) (by assumption) (by assumption) (by assumption) (by assumption) (by assumption) (by assumption) (by assumption)
    (ord_of (by assumption) (by repeat' (first | (with_reducible assumption) | (with_reducible exact (fun _ h => h)) | (with_reducible refine sub_cons ?_) | (with_reducible refine sub_app ?_)))) (ord_of (by assumption) (by repeat' (first | (with_reducible assumption) | (with_reducible exact (fun _ h => h)) | (with_reducible refine sub_cons ?_) | (with_reducible refine sub_app ?_)))) (ord_of (by assumption) (by repeat' (first | (with_reducible assumption) | (with_reducible exact (fun _ h => h)) | (with_reducible refine sub_cons ?_) | (with_reducible refine sub_app ?_)))) (ord_of (by assumption) (by repeat' (first | (with_reducible assumption) | (with_reducible exact (fun _ h => h)) | (with_reducible refine sub_cons ?_) | (with_reducible refine sub_app ?_)))) (ord_of (by assumption) (by repeat' (first | (with_reducible assumption) | (with_reducible exact (fun _ h => h)) | (with_reducible refine sub_cons ?_) | (with_reducible refine sub_app ?_)))) (ord_of (by assumption) (by repeat' (first | (with_reducible assumption) | (with_reducible exact (fun _ h => h)) | (with_reducible refine sub_cons ?_) | (with_reducible refine sub_app ?_)))) l1 l2
  exact hret _ tl _ _ (by assumption) NN OO ⟨x', rfl, MM⟩
theorem nrm_bits : ∀ (p : Nat) (t : Int) {B P : Nat}, Builtin.Int.intBits t ≤ B → p ≤ P → OkB B P (nrm t p)
  | 0, t, _, _, h, hp => ⟨h, hp⟩
  | p + 1, t, B, P, h, hp => by
    unfold nrm
    split
    · refine nrm_bits p (t / 10) ?_ (by omega)
      rw [← Int.fdiv_eq_ediv_of_nonneg _ (by decide)]
      exact PyProof.Rows.bits_fdiv h
    · exact ⟨h, hp⟩
theorem OkB.mul {B P B' P' : Nat} {a b : Int × Nat} (ha : OkB B P a) (hb : OkB B' P' b) : OkB (B + B') (P + P') (dmul a b) := nrm_bits _ _ (PyProof.Rows.bits_mul ha.1 hb.1) (Nat.add_le_add ha.2 hb.2)
theorem OkB.neg {B P : Nat} {a : Int × Nat} (ha : OkB B P a) : OkB B P (dneg a) := nrm_bits _ _ (PyProof.Rows.bits_neg ha.1) ha.2
theorem up_bits {B P k : Nat} {a : Int × Nat} (ha : OkB B P a) (hk : k ≤ P) : Builtin.Int.intBits (up a k) ≤ B + (4 * P + 1) :=
  PyProof.Rows.bits_mul ha.1 (Nat.le_trans (intBits_pow_le (m := 4) (by decide) _) (by omega))
theorem OkB.add {B P B' P' : Nat} {a b : Int × Nat} (ha : OkB B P a) (hb : OkB B' P' b) : OkB (max B B' + 4 * max P P' + 2) (max P P') (dadd a b) := by
  have h1 := ha.2
  have h2 := hb.2
  have hm : max a.2 b.2 ≤ max P P' := by omega
  have ha' := up_bits (ha.up (Nat.le_max_left B B') (Nat.le_max_left P P')) hm
  have hb' := up_bits (hb.up (Nat.le_max_right B B') (Nat.le_max_right P P')) hm
  exact nrm_bits _ _ (Nat.le_trans (PyProof.Rows.bits_add ha' hb') (by omega)) hm
theorem OkB.sub {B P B' P' : Nat} {a b : Int × Nat} (ha : OkB B P a) (hb : OkB B' P' b) : OkB (max B B' + 4 * max P P' + 2) (max P P') (dsub a b) := by
  have h1 := ha.2
  have h2 := hb.2
  have hm : max a.2 b.2 ≤ max P P' := by omega
  have ha' := up_bits (ha.up (Nat.le_max_left B B') (Nat.le_max_left P P')) hm
  have hb' := up_bits (hb.up (Nat.le_max_right B B') (Nat.le_max_right P P')) hm
  exact nrm_bits _ _ (Nat.le_trans (PyProof.Rows.bits_sub ha' hb') (by omega)) hm
structure MOk (M : Mat) : Prop where
  a : OkB 500 50 M.a
  b : OkB 500 50 M.b
  c : OkB 500 50 M.c
  d : OkB 500 50 M.d
  e : OkB 500 50 M.e
  f : OkB 500 50 M.f
/-- where an argument's decimal stands -/
def Src (w : World) (s news : Led) (v : Value) (d : Int × Nat) : Prop := ArgIn w s v d ∧ ∀ p ∈ s, p ∈ news
theorem src_int {w : World} {news : Led} {t : Int} {tt : Tok} : Src w [] news (.int t tt) (t, 0) := ⟨.inl ⟨t, tt, rfl, rfl⟩, fun _ h => nomatch h⟩
theorem src_pair {w : World} {news : Led} {x dx : Addr} {d : Int × Nat} {k1 k2 tt tp : Tok} (h1 : (x, instObj 143 dx) ∈ news) (h2 : (dx, decD w d.1 d.2 k1 k2 tt tp) ∈ news) :
    Src w [(x, instObj 143 dx), (dx, decD w d.1 d.2 k1 k2 tt tp)] news (.ref x) d :=
  ⟨.inr ⟨x, rfl, dx, k1, k2, tt, tp, .head _, .tail _ (.head _)⟩, List.forall_mem_cons.mpr ⟨h1, List.forall_mem_cons.mpr ⟨h2, List.forall_mem_nil _⟩⟩⟩
theorem src_arg {w : World} {s l news : Led} {v : Value} {d : Int × Nat} (h : Src w s l v d) (hs : ∀ p ∈ l, p ∈ news) : Src w s news v d := ⟨h.1, fun p hp => hs p (h.2 p hp)⟩
theorem newMat6 (w : World) (va vb vc vd ve vf : Value) (da db dc dd de df : Int × Nat) (sa sb sc sd se sf news : Led) (ha : Src w sa news va da) (hb : Src w sb news vb db) (hc : Src w sc news vc dc) (hd : Src w sd news vd dd) (he : Src w se news ve de) (hf : Src w sf news vf df) :
    Tell w 8 232 [va, vb, vc, vd, ve, vf] news (fun r tl => ∃ x, r = .ref x ∧ MatIn w (tl ++ (sa ++ (sb ++ (sc ++ (sd ++ (se ++ sf)))))) x ⟨da, db, dc, dd, de, df⟩) := by
  refine newMat w va vb vc vd ve vf da db dc dd de df _ news (ha.1.mono ?_) (hb.1.mono ?_) (hc.1.mono ?_) (hd.1.mono ?_) (he.1.mono ?_) (hf.1.mono ?_) ?_
  all_goals
    intro p hp
    simp only [List.mem_append] at hp ⊢
    first
      | simp only [hp, true_or, or_true]
      | (rcases hp with hp | hp | hp | hp | hp | hp
         · exact ha.2 p hp
         · exact hb.2 p hp
         · exact hc.2 p hp
         · exact hd.2 p hp
         · exact he.2 p hp
         · exact hf.2 p hp)
/-- an end where only what matters is handed on -/
theorem fin_sub {h₀ h' : Heap} {L : Addr} {m : Str → Option Value} {news big tl : Led} {Post : Value → Led → Prop} {Q : Value → Shared → Prop} {s : Shared} {r : Value} {tk' : Nat}
    (hret : ∀ r tl h' tk', Fr h₀ L h' m → News h₀ L h' (tl ++ news) → (∀ q ∈ news, ∀ p ∈ tl, q.1 < p.1) → Post r tl → Q r { s with heap := h', toks := tk' })
    (post : Post r tl) (F : Fr h₀ L h' m) (N : News h₀ L h' big) (hs : ∀ p ∈ tl ++ news, p ∈ big) (o : Ord news tl) : Q r { s with heap := h', toks := tk' } :=
  hret r tl h' tk' F (fun p hp => N p (hs p hp)) o post
theorem ord_nil {news : Led} : Ord news [] := fun _ _ _ h => nomatch h
theorem ord_tail {news : Led} {q : Addr × Obj} {l : Led} (h : Ord news [q]) (k : Ord news l) : Ord news (q :: l) := ord_app (a := [q]) h k
theorem ord_pair {news : Led} {q r : Addr × Obj} {l : Led} (h : Ord news [q, r]) (k : Ord news l) : Ord news (q :: r :: l) := ord_app (a := [q, r]) h k
theorem ord_5a {led news : Led} {t a b c d : Addr × Obj} (h : ∀ q ∈ led, ∀ p ∈ [t, a, b, c, d], q.1 < p.1) (hs : ∀ q ∈ news, q ∈ led) : Ord news [a, b] := fun q hq p hp => h q (hs q hq) p (by
  simp only [List.mem_cons, List.not_mem_nil, or_false] at hp ⊢; rcases hp with hp | hp <;> simp only [hp, true_or, or_true])
theorem ord_5b {led news : Led} {t a b c d : Addr × Obj} (h : ∀ q ∈ led, ∀ p ∈ [t, a, b, c, d], q.1 < p.1) (hs : ∀ q ∈ news, q ∈ led) : Ord news [c, d] := fun q hq p hp => h q (hs q hq) p (by
  simp only [List.mem_cons, List.not_mem_nil, or_false] at hp ⊢; rcases hp with hp | hp <;> simp only [hp, true_or, or_true])
local macro_rules | `(tactic| ktr_rel) => `(tactic| first | assumption | exact OkB.mul (by ktr_rel) (by ktr_rel) | exact OkB.add (by ktr_rel) (by ktr_rel) | exact OkB.sub (by ktr_rel) (by ktr_rel) | exact OkB.neg (by ktr_rel))
def Identity (_ : OpenLaw) (w : World) (_ : Frag) : Prop := ∀ (news : Led), Tell w 12 243 [] news (fun r tl => ∃ x, r = .ref x ∧ MatIn w tl x ⟨(1, 0), (0, 0), (0, 0), (1, 0), (0, 0), (0, 0)⟩)
set_option maxHeartbeats 8000000 in
theorem identity_ (w : World) : Identity PySem.Challenge.rw_og0156_01 w (hd.heap_1 w.params) := by
  k_fill
  unfold Identity Tell
  intro news dp un gd cn cs fa ccd cl outer A₀ base h₀ L m s mean mg mb Q E B F X N T hk hd hu hret
  refine wpAny_call ?_
  k_dflt ktr_enter
  repeat' (first | (k_unfold; (try dsimp only)) | (k_end; wrow_close) | (((with_reducible show wpAny _ _ (call (Value.ref _) _) _ _ _); first | (k_here; (with_reducible show wpAny _ _ (call (Value.ref 232) [_, _, _, _, _, _]) _ _ _); k_dflt (refine tell_use2 (by k_asm) (by k_asm) (by k_asm) (by k_asm) (by k_asm) (by first | exact rfl | assumption) (newMat6 _ _ _ _ _ _ _ _ _ _ _ _ _ _ _ _ _ _ _ _ (by first | exact src_int | exact src_arg (by assumption) (by repeat' (first | (with_reducible assumption) | (with_reducible exact (fun _ h => h)) | (with_reducible refine sub_cons ?_) | (with_reducible refine sub_app ?_))) | exact src_pair (by k_mem) (by k_mem)) (by first | exact src_int | exact src_arg (by assumption) (by repeat' (first | (with_reducible assumption) | (with_reducible exact (fun _ h => h)) | (with_reducible refine sub_cons ?_) | (with_reducible refine sub_app ?_))) | exact src_pair (by k_mem) (by k_mem)) (by first | exact src_int | exact src_arg (by assumption) (by repeat' (first | (with_reducible assumption) | (with_reducible exact (fun _ h => h)) | (with_reducible refine sub_cons ?_) | (with_reducible refine sub_app ?_))) | exact src_pair (by k_mem) (by k_mem)) (by first | exact src_int | exact src_arg (by assumption) (by repeat' (first | (with_reducible assumption) | (with_reducible exact (fun _ h => h)) | (with_reducible refine sub_cons ?_) | (with_reducible refine sub_app ?_))) | exact src_pair (by k_mem) (by k_mem)) (by first | exact src_int | exact src_arg (by assumption) (by repeat' (first | (with_reducible assumption) | (with_reducible exact (fun _ h => h)) | (with_reducible refine sub_cons ?_) | (with_reducible refine sub_app ?_))) | exact src_pair (by k_mem) (by k_mem)) (by first | exact src_int | exact src_arg (by assumption) (by repeat' (first | (with_reducible assumption) | (with_reducible exact (fun _ h => h)) | (with_reducible refine sub_cons ?_) | (with_reducible refine sub_app ?_))) | exact src_pair (by k_mem) (by k_mem))) (by ktr_room) (by ktr_units) ?_); intro r9 tl9 h9 tk9 F9 N9 hl9 ho9; obtain ⟨x9, er9, hin9⟩ := ho9; subst er9; (try simp only [List.nil_append, List.append_nil] at hin9); (try simp only [List.cons_append, List.nil_append] at N9); (try k_sweep); (try k_fold)))) | walk1 | (dsimp only; walk1) | (leave1; try dsimp only))
  refine fin_sub hret ⟨_, rfl, by assumption⟩ (by assumption) (by assumption) (by repeat' (first | (with_reducible exact sub_hd) | (with_reducible exact List.forall_mem_nil _) | (with_reducible refine List.forall_mem_append.mpr ⟨?_, ?_⟩) | (with_reducible refine List.forall_mem_cons.mpr ⟨?_, ?_⟩) | (with_reducible exact (fun _ h => h)) | (with_reducible refine sub_cons ?_) | (with_reducible refine sub_app ?_) | k_mem)) (by repeat' (first | exact ord_nil | (exact ord_of (by assumption) (by repeat' (first | (with_reducible assumption) | (with_reducible exact (fun _ h => h)) | (with_reducible refine sub_cons ?_) | (with_reducible refine sub_app ?_)))) | (refine ord_app ?_ ?_) | (refine ord_pair (ord_of (by assumption) (by repeat' (first | (with_reducible assumption) | (with_reducible exact (fun _ h => h)) | (with_reducible refine sub_cons ?_) | (with_reducible refine sub_app ?_)))) ?_) | (refine ord_tail (ord_of (by assumption) (by repeat' (first | (with_reducible assumption) | (with_reducible exact (fun _ h => h)) | (with_reducible refine sub_cons ?_) | (with_reducible refine sub_app ?_)))) ?_)))
def Translation (_ : OpenLaw) (w : World) (_ : Frag) : Prop := ∀ (vx vy : Value) (dx dy : Int × Nat) (sx sy news : Led), Src w sx news vx dx → Src w sy news vy dy → Tell w 12 250 [vx, vy] news (fun r tl => ∃ x, r = .ref x ∧ MatIn w (tl ++ (sx ++ sy)) x ⟨(1, 0), (0, 0), (0, 0), (1, 0), dx, dy⟩)
set_option maxHeartbeats 8000000 in
theorem translation_ (w : World) : Translation PySem.Challenge.rw_og0156_01 w (hd.heap_1 w.params) := by
  k_fill
  unfold Translation Tell
  intro vx vy dx dy sx sy news hx hy dp un gd cn cs fa ccd cl outer A₀ base h₀ L m s mean mg mb Q E B F X N T hk hd hu hret
  refine wpAny_call ?_
  k_dflt ktr_enter
  repeat' (first | (k_unfold; (try dsimp only)) | (k_end; wrow_close) | (((with_reducible show wpAny _ _ (call (Value.ref _) _) _ _ _); first | (k_here; (with_reducible show wpAny _ _ (call (Value.ref 232) [_, _, _, _, _, _]) _ _ _); k_dflt (refine tell_use2 (by k_asm) (by k_asm) (by k_asm) (by k_asm) (by k_asm) (by first | exact rfl | assumption) (newMat6 _ _ _ _ _ _ _ _ _ _ _ _ _ _ _ _ _ _ _ _ (by first | exact src_int | exact src_arg (by assumption) (by repeat' (first | (with_reducible assumption) | (with_reducible exact (fun _ h => h)) | (with_reducible refine sub_cons ?_) | (with_reducible refine sub_app ?_))) | exact src_pair (by k_mem) (by k_mem)) (by first | exact src_int | exact src_arg (by assumption) (by repeat' (first | (with_reducible assumption) | (with_reducible exact (fun _ h => h)) | (with_reducible refine sub_cons ?_) | (with_reducible refine sub_app ?_))) | exact src_pair (by k_mem) (by k_mem)) (by first | exact src_int | exact src_arg (by assumption) (by repeat' (first | (with_reducible assumption) | (with_reducible exact (fun _ h => h)) | (with_reducible refine sub_cons ?_) | (with_reducible refine sub_app ?_))) | exact src_pair (by k_mem) (by k_mem)) (by first | exact src_int | exact src_arg (by assumption) (by repeat' (first | (with_reducible assumption) | (with_reducible exact (fun _ h => h)) | (with_reducible refine sub_cons ?_) | (with_reducible refine sub_app ?_))) | exact src_pair (by k_mem) (by k_mem)) (by first | exact src_int | exact src_arg (by assumption) (by repeat' (first | (with_reducible assumption) | (with_reducible exact (fun _ h => h)) | (with_reducible refine sub_cons ?_) | (with_reducible refine sub_app ?_))) | exact src_pair (by k_mem) (by k_mem)) (by first | exact src_int | exact src_arg (by assumption) (by repeat' (first | (with_reducible assumption) | (with_reducible exact (fun _ h => h)) | (with_reducible refine sub_cons ?_) | (with_reducible refine sub_app ?_))) | exact src_pair (by k_mem) (by k_mem))) (by ktr_room) (by ktr_units) ?_); intro r9 tl9 h9 tk9 F9 N9 hl9 ho9; obtain ⟨x9, er9, hin9⟩ := ho9; subst er9; (try simp only [List.nil_append, List.append_nil] at hin9); (try simp only [List.cons_append, List.nil_append] at N9); (try k_sweep); (try k_fold)))) | walk1 | (dsimp only; walk1) | (leave1; try dsimp only))
  refine fin_sub hret ⟨_, rfl, by assumption⟩ (by assumption) (by assumption) (by repeat' (first | (with_reducible exact sub_hd) | (with_reducible exact List.forall_mem_nil _) | (with_reducible refine List.forall_mem_append.mpr ⟨?_, ?_⟩) | (with_reducible refine List.forall_mem_cons.mpr ⟨?_, ?_⟩) | (with_reducible exact (fun _ h => h)) | (with_reducible refine sub_cons ?_) | (with_reducible refine sub_app ?_) | k_mem)) (by repeat' (first | exact ord_nil | (exact ord_of (by assumption) (by repeat' (first | (with_reducible assumption) | (with_reducible exact (fun _ h => h)) | (with_reducible refine sub_cons ?_) | (with_reducible refine sub_app ?_)))) | (refine ord_app ?_ ?_) | (refine ord_pair (ord_of (by assumption) (by repeat' (first | (with_reducible assumption) | (with_reducible exact (fun _ h => h)) | (with_reducible refine sub_cons ?_) | (with_reducible refine sub_app ?_)))) ?_) | (refine ord_tail (ord_of (by assumption) (by repeat' (first | (with_reducible assumption) | (with_reducible exact (fun _ h => h)) | (with_reducible refine sub_cons ?_) | (with_reducible refine sub_app ?_)))) ?_)))
def Skewing (_ : OpenLaw) (w : World) (_ : Frag) : Prop := ∀ (vx vy : Value) (dx dy : Int × Nat) (sx sy news : Led), Src w sx news vx dx → Src w sy news vy dy → Tell w 12 264 [vx, vy] news (fun r tl => ∃ x, r = .ref x ∧ MatIn w (tl ++ (sy ++ sx)) x ⟨(1, 0), dy, dx, (1, 0), (0, 0), (0, 0)⟩)
set_option maxHeartbeats 8000000 in
theorem skewing_ (w : World) : Skewing PySem.Challenge.rw_og0156_01 w (hd.heap_1 w.params) := by
  k_fill
  unfold Skewing Tell
  intro vx vy dx dy sx sy news hx hy dp un gd cn cs fa ccd cl outer A₀ base h₀ L m s mean mg mb Q E B F X N T hk hd hu hret
  refine wpAny_call ?_
  k_dflt ktr_enter
  repeat' (first | (k_unfold; (try dsimp only)) | (k_end; wrow_close) | (((with_reducible show wpAny _ _ (call (Value.ref _) _) _ _ _); first | (k_here; (with_reducible show wpAny _ _ (call (Value.ref 232) [_, _, _, _, _, _]) _ _ _); k_dflt (refine tell_use2 (by k_asm) (by k_asm) (by k_asm) (by k_asm) (by k_asm) (by first | exact rfl | assumption) (newMat6 _ _ _ _ _ _ _ _ _ _ _ _ _ _ _ _ _ _ _ _ (by first | exact src_int | exact src_arg (by assumption) (by repeat' (first | (with_reducible assumption) | (with_reducible exact (fun _ h => h)) | (with_reducible refine sub_cons ?_) | (with_reducible refine sub_app ?_))) | exact src_pair (by k_mem) (by k_mem)) (by first | exact src_int | exact src_arg (by assumption) (by repeat' (first | (with_reducible assumption) | (with_reducible exact (fun _ h => h)) | (with_reducible refine sub_cons ?_) | (with_reducible refine sub_app ?_))) | exact src_pair (by k_mem) (by k_mem)) (by first | exact src_int | exact src_arg (by assumption) (by repeat' (first | (with_reducible assumption) | (with_reducible exact (fun _ h => h)) | (with_reducible refine sub_cons ?_) | (with_reducible refine sub_app ?_))) | exact src_pair (by k_mem) (by k_mem)) (by first | exact src_int | exact src_arg (by assumption) (by repeat' (first | (with_reducible assumption) | (with_reducible exact (fun _ h => h)) | (with_reducible refine sub_cons ?_) | (with_reducible refine sub_app ?_))) | exact src_pair (by k_mem) (by k_mem)) (by first | exact src_int | exact src_arg (by assumption) (by repeat' (first | (with_reducible assumption) | (with_reducible exact (fun _ h => h)) | (with_reducible refine sub_cons ?_) | (with_reducible refine sub_app ?_))) | exact src_pair (by k_mem) (by k_mem)) (by first | exact src_int | exact src_arg (by assumption) (by repeat' (first | (with_reducible assumption) | (with_reducible exact (fun _ h => h)) | (with_reducible refine sub_cons ?_) | (with_reducible refine sub_app ?_))) | exact src_pair (by k_mem) (by k_mem))) (by ktr_room) (by ktr_units) ?_); intro r9 tl9 h9 tk9 F9 N9 hl9 ho9; obtain ⟨x9, er9, hin9⟩ := ho9; subst er9; (try simp only [List.nil_append, List.append_nil] at hin9); (try simp only [List.cons_append, List.nil_append] at N9); (try k_sweep); (try k_fold)))) | walk1 | (dsimp only; walk1) | (leave1; try dsimp only))
  refine fin_sub hret ⟨_, rfl, by assumption⟩ (by assumption) (by assumption) (by repeat' (first | (with_reducible exact sub_hd) | (with_reducible exact List.forall_mem_nil _) | (with_reducible refine List.forall_mem_append.mpr ⟨?_, ?_⟩) | (with_reducible refine List.forall_mem_cons.mpr ⟨?_, ?_⟩) | (with_reducible exact (fun _ h => h)) | (with_reducible refine sub_cons ?_) | (with_reducible refine sub_app ?_) | k_mem)) (by repeat' (first | exact ord_nil | (exact ord_of (by assumption) (by repeat' (first | (with_reducible assumption) | (with_reducible exact (fun _ h => h)) | (with_reducible refine sub_cons ?_) | (with_reducible refine sub_app ?_)))) | (refine ord_app ?_ ?_) | (refine ord_pair (ord_of (by assumption) (by repeat' (first | (with_reducible assumption) | (with_reducible exact (fun _ h => h)) | (with_reducible refine sub_cons ?_) | (with_reducible refine sub_app ?_)))) ?_) | (refine ord_tail (ord_of (by assumption) (by repeat' (first | (with_reducible assumption) | (with_reducible exact (fun _ h => h)) | (with_reducible refine sub_cons ?_) | (with_reducible refine sub_app ?_)))) ?_)))
def qcos (k : Int) : Int := [1, 0, -1, 0].getD k.toNat 0
def qsin (k : Int) : Int := [0, 1, 0, -1].getD k.toNat 0
def Quarter (_ : OpenLaw) (w : World) (_ : Frag) : Prop := ∀ (n : Int) (tn : Tok) (news : Led), Tell w 12 257 [.int n tn] news (fun r tl => ∃ x, r = .ref x ∧ MatIn w tl x ⟨(qcos (n.fmod 4), 0), (qsin (n.fmod 4), 0), (-qsin (n.fmod 4), 0), (qcos (n.fmod 4), 0), (0, 0), (0, 0)⟩)
set_option maxHeartbeats 8000000 in
theorem quarter_ (w : World) : Quarter PySem.Challenge.rw_og0156_01 w (hd.heap_1 w.params) := by
  k_fill
  unfold Quarter Tell
  intro n tn news dp un gd cn cs fa ccd cl outer A₀ base h₀ L m s mean mg mb Q E B F X N T hk hd hu hret
  refine wpAny_call ?_
  k_dflt ktr_enter
  repeat' (first | (k_unfold; (try dsimp only)) | (k_end; wrow_close) | (((with_reducible show wpAny _ _ (call (Value.ref _) _) _ _ _); first | (k_here; (with_reducible show wpAny _ _ (call (Value.ref 232) [_, _, _, _, _, _]) _ _ _); k_dflt (refine tell_use2 (by k_asm) (by k_asm) (by k_asm) (by k_asm) (by k_asm) (by first | exact rfl | assumption) (newMat6 _ _ _ _ _ _ _ _ _ _ _ _ _ _ _ _ _ _ _ _ (by first | exact src_int | exact src_arg (by assumption) (by repeat' (first | (with_reducible assumption) | (with_reducible exact (fun _ h => h)) | (with_reducible refine sub_cons ?_) | (with_reducible refine sub_app ?_))) | exact src_pair (by k_mem) (by k_mem)) (by first | exact src_int | exact src_arg (by assumption) (by repeat' (first | (with_reducible assumption) | (with_reducible exact (fun _ h => h)) | (with_reducible refine sub_cons ?_) | (with_reducible refine sub_app ?_))) | exact src_pair (by k_mem) (by k_mem)) (by first | exact src_int | exact src_arg (by assumption) (by repeat' (first | (with_reducible assumption) | (with_reducible exact (fun _ h => h)) | (with_reducible refine sub_cons ?_) | (with_reducible refine sub_app ?_))) | exact src_pair (by k_mem) (by k_mem)) (by first | exact src_int | exact src_arg (by assumption) (by repeat' (first | (with_reducible assumption) | (with_reducible exact (fun _ h => h)) | (with_reducible refine sub_cons ?_) | (with_reducible refine sub_app ?_))) | exact src_pair (by k_mem) (by k_mem)) (by first | exact src_int | exact src_arg (by assumption) (by repeat' (first | (with_reducible assumption) | (with_reducible exact (fun _ h => h)) | (with_reducible refine sub_cons ?_) | (with_reducible refine sub_app ?_))) | exact src_pair (by k_mem) (by k_mem)) (by first | exact src_int | exact src_arg (by assumption) (by repeat' (first | (with_reducible assumption) | (with_reducible exact (fun _ h => h)) | (with_reducible refine sub_cons ?_) | (with_reducible refine sub_app ?_))) | exact src_pair (by k_mem) (by k_mem))) (by ktr_room) (by ktr_units) ?_); intro r9 tl9 h9 tk9 F9 N9 hl9 ho9; obtain ⟨x9, er9, hin9⟩ := ho9; subst er9; (try simp only [List.nil_append, List.append_nil] at hin9); (try simp only [List.cons_append, List.nil_append] at N9); (try k_sweep); (try k_fold)))) | walk1 | (dsimp only; walk1) | (leave1; try dsimp only))
  refine fin_sub hret ⟨_, rfl, by assumption⟩ (by assumption) (by assumption) (by repeat' (first | (with_reducible exact sub_hd) | (with_reducible exact List.forall_mem_nil _) | (with_reducible refine List.forall_mem_append.mpr ⟨?_, ?_⟩) | (with_reducible refine List.forall_mem_cons.mpr ⟨?_, ?_⟩) | (with_reducible exact (fun _ h => h)) | (with_reducible refine sub_cons ?_) | (with_reducible refine sub_app ?_) | k_mem)) (by repeat' (first | exact ord_nil | (exact ord_of (by assumption) (by repeat' (first | (with_reducible assumption) | (with_reducible exact (fun _ h => h)) | (with_reducible refine sub_cons ?_) | (with_reducible refine sub_app ?_)))) | (refine ord_app ?_ ?_) | (refine ord_pair (ord_of (by assumption) (by repeat' (first | (with_reducible assumption) | (with_reducible exact (fun _ h => h)) | (with_reducible refine sub_cons ?_) | (with_reducible refine sub_app ?_)))) ?_) | (refine ord_tail (ord_of (by assumption) (by repeat' (first | (with_reducible assumption) | (with_reducible exact (fun _ h => h)) | (with_reducible refine sub_cons ?_) | (with_reducible refine sub_app ?_)))) ?_)))
def appR (M : Mat) (x y : Int × Nat) : Int × Nat := dadd (dadd (dmul M.a x) (dmul M.c y)) M.e
def appU (M : Mat) (x y : Int × Nat) : Int × Nat := dadd (dadd (dmul M.b x) (dmul M.d y)) M.f
def PairNew (w : World) (d e : Int × Nat) (r : Value) (tl : Led) : Prop :=
  ∃ D x dx y dy k1 k2 k3 k4 k5 k6 k7 k8 c, r = .ref D ∧ tl = [(D, ({ cls := .type "tuple", data := .seq #[.ref x, .ref y] c } : Obj)), (x, instObj 143 dx), (dx, decD w d.1 d.2 k1 k2 k3 k4), (y, instObj 143 dy), (dy, decD w e.1 e.2 k5 k6 k7 k8)]
theorem pairNew_of {w : World} {d e : Int × Nat} {D x dx y dy : Addr} {k1 k2 k3 k4 k5 k6 k7 k8 : Tok} {c : Nat} :
    PairNew w d e (.ref D) [(D, ({ cls := .type "tuple", data := .seq #[.ref x, .ref y] c } : Obj)), (x, instObj 143 dx), (dx, decD w d.1 d.2 k1 k2 k3 k4), (y, instObj 143 dy), (dy, decD w e.1 e.2 k5 k6 k7 k8)] :=
  ⟨D, x, dx, y, dy, k1, k2, k3, k4, k5, k6, k7, k8, c, rfl, rfl⟩
theorem pair_at {w : World} {news big : Led} {d e : Int × Nat} {D x dx y dy : Addr} {k1 k2 k3 k4 k5 k6 k7 k8 : Tok} {c : Nat} {h₀ h' : Heap} {L : Addr} {m : Str → Option Value} {Q : Value → Shared → Prop} {s : Shared} {tk' : Nat}
    (hret : ∀ r tl h' tk', Fr h₀ L h' m → News h₀ L h' (tl ++ news) → (∀ q ∈ news, ∀ p ∈ tl, q.1 < p.1) → PairNew w d e r tl → Q r { s with heap := h', toks := tk' })
    (F : Fr h₀ L h' m) (N : News h₀ L h' big) (m1 : (D, ({ cls := .type "tuple", data := .seq #[.ref x, .ref y] c } : Obj)) ∈ big) (m2 : (x, instObj 143 dx) ∈ big) (m3 : (dx, decD w d.1 d.2 k1 k2 k3 k4) ∈ big) (m4 : (y, instObj 143 dy) ∈ big) (m5 : (dy, decD w e.1 e.2 k5 k6 k7 k8) ∈ big)
    (hs : ∀ p ∈ news, p ∈ big) (o1 : ∀ q ∈ news, q.1 < D) (o2 : Ord news [(x, instObj 143 dx), (dx, decD w d.1 d.2 k1 k2 k3 k4)]) (o3 : Ord news [(y, instObj 143 dy), (dy, decD w e.1 e.2 k5 k6 k7 k8)]) : Q (.ref D) { s with heap := h', toks := tk' } := by
  refine hret _ _ h' tk' F ?_ ?_ (pairNew_of (x := x) (dx := dx) (y := y) (dy := dy) (k1 := k1) (k2 := k2) (k3 := k3) (k4 := k4) (k5 := k5) (k6 := k6) (k7 := k7) (k8 := k8) (c := c))
  · intro p hp
    simp only [List.cons_append, List.nil_append, List.mem_cons] at hp
    rcases hp with rfl | rfl | rfl | rfl | rfl | hp
    · exact N _ m1
    · exact N _ m2
    · exact N _ m3
    · exact N _ m4
    · exact N _ m5
    · exact N _ (hs _ hp)
  · exact ord_tail (fun q hq p hp => by rw [List.mem_singleton.mp hp]; exact o1 q hq) (ord_pair o2 (ord_pair o3 ord_nil))
def Applied (_ : OpenLaw) (w : World) (_ : Frag) : Prop := ∀ (z x y : Addr) (M : Mat) (a b : Int × Nat) (news : Led), MatIn w news z M → DecIn w news x a → DecIn w news y b → MOk M → OkB 500 50 a → OkB 500 50 b → Tell w 12 210 [.ref z, .ref x, .ref y] news (PairNew w (appR M a b) (appU M a b))
set_option maxHeartbeats 8000000 in
theorem applied_ (w : World) : Applied PySem.Challenge.rw_og0156_01 w (hd.heap_1 w.params) := by
  k_fill
  unfold Applied Tell
  intro z x y M a b news hz hx hy oz oa ob dp un gd cn cs fa ccd cl outer A₀ base h₀ L m s mean mg mb Q E B F X N T hk hd hu hret
  obtain ⟨zdx, za, zb, zc, zd, ze, zf, zk1, zk2, zk3, zk4, zk5, zk6, z1, z2, zha, zhb, zhc, zhd, zhe, zhf⟩ := hz
  obtain ⟨zoa, zob, zoc, zod, zoe, zof⟩ := oz
  obtain ⟨zaqdx, zaqk1, zaqk2, zaqk3, zaqk4, zaqm1, zaqm2⟩ := zha
  obtain ⟨zbqdx, zbqk1, zbqk2, zbqk3, zbqk4, zbqm1, zbqm2⟩ := zhb
  obtain ⟨zcqdx, zcqk1, zcqk2, zcqk3, zcqk4, zcqm1, zcqm2⟩ := zhc
  obtain ⟨zdqdx, zdqk1, zdqk2, zdqk3, zdqk4, zdqm1, zdqm2⟩ := zhd
  obtain ⟨zeqdx, zeqk1, zeqk2, zeqk3, zeqk4, zeqm1, zeqm2⟩ := zhe
  obtain ⟨zfqdx, zfqk1, zfqk2, zfqk3, zfqk4, zfqm1, zfqm2⟩ := zhf
  refine wpAny_call ?_
  k_dflt ktr_enter
  repeat' (first | (k_unfold; (try dsimp only)) | (k_end; wrow_close) | (((with_reducible show wpAny _ _ (call (Value.ref _) _) _ _ _); first | (k_here; (with_reducible show wpAny _ _ (call (Value.ref 70) [Value.ref _, Value.ref _]) _ _ _); k_dflt (refine tell_use2 (by k_asm) (by k_asm) (by k_asm) (by k_asm) (by k_asm) (by first | exact rfl | assumption) (decPlus _ _ _ _ _ _ (by first | assumption | exact DecIn.mono (by assumption) (by repeat' (first | (with_reducible assumption) | (with_reducible exact (fun _ h => h)) | (with_reducible refine sub_cons ?_) | (with_reducible refine sub_app ?_))) | exact decIn_of (by k_mem) (by k_mem)) (by first | assumption | exact DecIn.mono (by assumption) (by repeat' (first | (with_reducible assumption) | (with_reducible exact (fun _ h => h)) | (with_reducible refine sub_cons ?_) | (with_reducible refine sub_app ?_))) | exact decIn_of (by k_mem) (by k_mem)) (by exact OkB.up (by ktr_rel) (by decide) (by decide)) (by exact OkB.up (by ktr_rel) (by decide) (by decide))) (by ktr_room) (by ktr_units) ?_); intro r9 tl9 h9 tk9 F9 N9 hl9 ho9; obtain ⟨x9, dx9, k19, k29, tt9, tp9, er9, et9⟩ := ho9; subst er9; subst et9; (try simp only [List.cons_append, List.nil_append] at N9); (try k_sweep); (try k_fold)) | (k_here; (with_reducible show wpAny _ _ (call (Value.ref 84) [Value.ref _, Value.ref _]) _ _ _); k_dflt (refine tell_use2 (by k_asm) (by k_asm) (by k_asm) (by k_asm) (by k_asm) (by first | exact rfl | assumption) (decTimes _ _ _ _ _ _ (by first | assumption | exact DecIn.mono (by assumption) (by repeat' (first | (with_reducible assumption) | (with_reducible exact (fun _ h => h)) | (with_reducible refine sub_cons ?_) | (with_reducible refine sub_app ?_))) | exact decIn_of (by k_mem) (by k_mem)) (by first | assumption | exact DecIn.mono (by assumption) (by repeat' (first | (with_reducible assumption) | (with_reducible exact (fun _ h => h)) | (with_reducible refine sub_cons ?_) | (with_reducible refine sub_app ?_))) | exact decIn_of (by k_mem) (by k_mem)) (by exact OkB.up (by ktr_rel) (by decide) (by decide)) (by exact OkB.up (by ktr_rel) (by decide) (by decide))) (by ktr_room) (by ktr_units) ?_); intro r9 tl9 h9 tk9 F9 N9 hl9 ho9; obtain ⟨x9, dx9, k19, k29, tt9, tp9, er9, et9⟩ := ho9; subst er9; subst et9; (try simp only [List.cons_append, List.nil_append] at N9); (try k_sweep); (try k_fold)))) | walk1 | (dsimp only; walk1) | (leave1; try dsimp only))
  refine pair_at hret (by assumption) (by assumption) (by k_mem) (by k_mem) (by k_mem) (by k_mem) (by k_mem) (by repeat' (first | (with_reducible assumption) | (with_reducible exact (fun _ h => h)) | (with_reducible refine sub_cons ?_) | (with_reducible refine sub_app ?_))) (ktn_ltOf (by first | assumption | exact allLt_of (by assumption) | (rename ((_ : Nat) < _ ∧ _) => hA; revert hA; simp only [and_imp]; intros; assumption))) (ord_of (by assumption) (by repeat' (first | (with_reducible assumption) | (with_reducible exact (fun _ h => h)) | (with_reducible refine sub_cons ?_) | (with_reducible refine sub_app ?_)))) (ord_of (by assumption) (by repeat' (first | (with_reducible assumption) | (with_reducible exact (fun _ h => h)) | (with_reducible refine sub_cons ?_) | (with_reducible refine sub_app ?_))))
def mulM (A B : Mat) : Mat where
  a := dadd (dmul A.a B.a) (dmul A.b B.c)
  b := dadd (dmul A.a B.b) (dmul A.b B.d)
  c := dadd (dmul A.c B.a) (dmul A.d B.c)
  d := dadd (dmul A.c B.b) (dmul A.d B.d)
  e := appR B A.e A.f
  f := appU B A.e A.f
def MatTimes (_ : OpenLaw) (w : World) (_ : Frag) : Prop := ∀ (x y : Addr) (A B : Mat) (news : Led), MatIn w news x A → MatIn w news y B → MOk A → MOk B → Tell w 16 203 [.ref x, .ref y] news (fun r tl => ∃ z, r = .ref z ∧ MatIn w tl z (mulM A B))
set_option maxHeartbeats 8000000 in
theorem matTimes (w : World) : MatTimes PySem.Challenge.rw_og0156_01 w (hd.heap_1 w.params) := by
  k_fill
  unfold MatTimes Tell
  intro x y A B news hx hy ox oy dp un gd cn cs fa ccd cl outer A₀ base h₀ L m s mean mg mb Q E B F X N T hk hd hu hret
  have hx0 := hx
  have hy0 := hy
  have ox0 := ox
  have oy0 := oy
  obtain ⟨xdx, xa, xb, xc, xd, xe, xf, xk1, xk2, xk3, xk4, xk5, xk6, x1, x2, xha, xhb, xhc, xhd, xhe, xhf⟩ := hx
  obtain ⟨xoa, xob, xoc, xod, xoe, xof⟩ := ox
  obtain ⟨xaqdx, xaqk1, xaqk2, xaqk3, xaqk4, xaqm1, xaqm2⟩ := xha
  obtain ⟨xbqdx, xbqk1, xbqk2, xbqk3, xbqk4, xbqm1, xbqm2⟩ := xhb
  obtain ⟨xcqdx, xcqk1, xcqk2, xcqk3, xcqk4, xcqm1, xcqm2⟩ := xhc
  obtain ⟨xdqdx, xdqk1, xdqk2, xdqk3, xdqk4, xdqm1, xdqm2⟩ := xhd
  obtain ⟨xeqdx, xeqk1, xeqk2, xeqk3, xeqk4, xeqm1, xeqm2⟩ := xhe
  obtain ⟨xfqdx, xfqk1, xfqk2, xfqk3, xfqk4, xfqm1, xfqm2⟩ := xhf
  obtain ⟨ydx, ya, yb, yc, yd, ye, yf, yk1, yk2, yk3, yk4, yk5, yk6, y1, y2, yha, yhb, yhc, yhd, yhe, yhf⟩ := hy
  obtain ⟨yoa, yob, yoc, yod, yoe, yof⟩ := oy
  obtain ⟨yaqdx, yaqk1, yaqk2, yaqk3, yaqk4, yaqm1, yaqm2⟩ := yha
  obtain ⟨ybqdx, ybqk1, ybqk2, ybqk3, ybqk4, ybqm1, ybqm2⟩ := yhb
  obtain ⟨ycqdx, ycqk1, ycqk2, ycqk3, ycqk4, ycqm1, ycqm2⟩ := yhc
  obtain ⟨ydqdx, ydqk1, ydqk2, ydqk3, ydqk4, ydqm1, ydqm2⟩ := yhd
  obtain ⟨yeqdx, yeqk1, yeqk2, yeqk3, yeqk4, yeqm1, yeqm2⟩ := yhe
  obtain ⟨yfqdx, yfqk1, yfqk2, yfqk3, yfqk4, yfqm1, yfqm2⟩ := yhf
  refine wpAny_call ?_
  k_dflt ktr_enter
  repeat' (first | (k_unfold; (try dsimp only)) | (k_end; wrow_close) | (((with_reducible show wpAny _ _ (call (Value.ref _) _) _ _ _); first | (k_here; (with_reducible show wpAny _ _ (call (Value.ref 210) [_, _, _]) _ _ _); k_dflt (refine tell_use2 (by k_asm) (by k_asm) (by k_asm) (by k_asm) (by k_asm) (by first | exact rfl | assumption) (applied_ _ _ _ _ _ _ _ _ (by first | assumption | exact MatIn.mono (by assumption) (by repeat' (first | (with_reducible assumption) | (with_reducible exact (fun _ h => h)) | (with_reducible refine sub_cons ?_) | (with_reducible refine sub_app ?_)))) (by first | assumption | exact DecIn.mono (by assumption) (by repeat' (first | (with_reducible assumption) | (with_reducible exact (fun _ h => h)) | (with_reducible refine sub_cons ?_) | (with_reducible refine sub_app ?_))) | exact decIn_of (by k_mem) (by k_mem)) (by first | assumption | exact DecIn.mono (by assumption) (by repeat' (first | (with_reducible assumption) | (with_reducible exact (fun _ h => h)) | (with_reducible refine sub_cons ?_) | (with_reducible refine sub_app ?_))) | exact decIn_of (by k_mem) (by k_mem)) (by assumption) (by ktr_rel) (by ktr_rel)) (by ktr_room) (by ktr_units) ?_); intro r9 tl9 h9 tk9 F9 N9 hl9 ho9; obtain ⟨D9, x9, dx9, y9, dy9, k19, k29, k39, k49, k59, k69, k79, k89, c9, er9, et9⟩ := ho9; subst er9; subst et9; (try simp only [List.cons_append, List.nil_append] at N9); (try k_sweep); (try k_fold)) | (k_here; (with_reducible show wpAny _ _ (call (Value.ref 232) [_, _, _, _, _, _]) _ _ _); k_dflt (refine tell_use2 (by k_asm) (by k_asm) (by k_asm) (by k_asm) (by k_asm) (by first | exact rfl | assumption) (newMat6 _ _ _ _ _ _ _ _ _ _ _ _ _ _ _ _ _ _ _ _ (by first | exact src_int | exact src_arg (by assumption) (by repeat' (first | (with_reducible assumption) | (with_reducible exact (fun _ h => h)) | (with_reducible refine sub_cons ?_) | (with_reducible refine sub_app ?_))) | exact src_pair (by k_mem) (by k_mem)) (by first | exact src_int | exact src_arg (by assumption) (by repeat' (first | (with_reducible assumption) | (with_reducible exact (fun _ h => h)) | (with_reducible refine sub_cons ?_) | (with_reducible refine sub_app ?_))) | exact src_pair (by k_mem) (by k_mem)) (by first | exact src_int | exact src_arg (by assumption) (by repeat' (first | (with_reducible assumption) | (with_reducible exact (fun _ h => h)) | (with_reducible refine sub_cons ?_) | (with_reducible refine sub_app ?_))) | exact src_pair (by k_mem) (by k_mem)) (by first | exact src_int | exact src_arg (by assumption) (by repeat' (first | (with_reducible assumption) | (with_reducible exact (fun _ h => h)) | (with_reducible refine sub_cons ?_) | (with_reducible refine sub_app ?_))) | exact src_pair (by k_mem) (by k_mem)) (by first | exact src_int | exact src_arg (by assumption) (by repeat' (first | (with_reducible assumption) | (with_reducible exact (fun _ h => h)) | (with_reducible refine sub_cons ?_) | (with_reducible refine sub_app ?_))) | exact src_pair (by k_mem) (by k_mem)) (by first | exact src_int | exact src_arg (by assumption) (by repeat' (first | (with_reducible assumption) | (with_reducible exact (fun _ h => h)) | (with_reducible refine sub_cons ?_) | (with_reducible refine sub_app ?_))) | exact src_pair (by k_mem) (by k_mem))) (by ktr_room) (by ktr_units) ?_); intro r9 tl9 h9 tk9 F9 N9 hl9 ho9; obtain ⟨x9, er9, hin9⟩ := ho9; subst er9; (try simp only [List.nil_append, List.append_nil] at hin9); (try simp only [List.cons_append, List.nil_append] at N9); (try k_sweep); (try k_fold)) | (k_here; (with_reducible show wpAny _ _ (call (Value.ref 70) [Value.ref _, Value.ref _]) _ _ _); k_dflt (refine tell_use2 (by k_asm) (by k_asm) (by k_asm) (by k_asm) (by k_asm) (by first | exact rfl | assumption) (decPlus _ _ _ _ _ _ (by first | assumption | exact DecIn.mono (by assumption) (by repeat' (first | (with_reducible assumption) | (with_reducible exact (fun _ h => h)) | (with_reducible refine sub_cons ?_) | (with_reducible refine sub_app ?_))) | exact decIn_of (by k_mem) (by k_mem)) (by first | assumption | exact DecIn.mono (by assumption) (by repeat' (first | (with_reducible assumption) | (with_reducible exact (fun _ h => h)) | (with_reducible refine sub_cons ?_) | (with_reducible refine sub_app ?_))) | exact decIn_of (by k_mem) (by k_mem)) (by exact OkB.up (by ktr_rel) (by decide) (by decide)) (by exact OkB.up (by ktr_rel) (by decide) (by decide))) (by ktr_room) (by ktr_units) ?_); intro r9 tl9 h9 tk9 F9 N9 hl9 ho9; obtain ⟨x9, dx9, k19, k29, tt9, tp9, er9, et9⟩ := ho9; subst er9; subst et9; (try simp only [List.cons_append, List.nil_append] at N9); (try k_sweep); (try k_fold)) | (k_here; (with_reducible show wpAny _ _ (call (Value.ref 84) [Value.ref _, Value.ref _]) _ _ _); k_dflt (refine tell_use2 (by k_asm) (by k_asm) (by k_asm) (by k_asm) (by k_asm) (by first | exact rfl | assumption) (decTimes _ _ _ _ _ _ (by first | assumption | exact DecIn.mono (by assumption) (by repeat' (first | (with_reducible assumption) | (with_reducible exact (fun _ h => h)) | (with_reducible refine sub_cons ?_) | (with_reducible refine sub_app ?_))) | exact decIn_of (by k_mem) (by k_mem)) (by first | assumption | exact DecIn.mono (by assumption) (by repeat' (first | (with_reducible assumption) | (with_reducible exact (fun _ h => h)) | (with_reducible refine sub_cons ?_) | (with_reducible refine sub_app ?_))) | exact decIn_of (by k_mem) (by k_mem)) (by exact OkB.up (by ktr_rel) (by decide) (by decide)) (by exact OkB.up (by ktr_rel) (by decide) (by decide))) (by ktr_room) (by ktr_units) ?_); intro r9 tl9 h9 tk9 F9 N9 hl9 ho9; obtain ⟨x9, dx9, k19, k29, tt9, tp9, er9, et9⟩ := ho9; subst er9; subst et9; (try simp only [List.cons_append, List.nil_append] at N9); (try k_sweep); (try k_fold)))) | walk1 | (dsimp only; walk1) | (leave1; try dsimp only))
  refine' fin_sub hret ⟨_, rfl, ?hin⟩ ?fF ?fN ?fs ?fo
  (case hin => assumption)
  (case fF => assumption)
  (case fN => assumption)
  (case fs => repeat' (first | (with_reducible exact sub_hd) | (with_reducible exact List.forall_mem_nil _) | (with_reducible refine List.forall_mem_append.mpr ⟨?_, ?_⟩) | (with_reducible refine List.forall_mem_cons.mpr ⟨?_, ?_⟩) | (with_reducible exact (fun _ h => h)) | (with_reducible refine sub_cons ?_) | (with_reducible refine sub_app ?_) | k_mem))
  (case fo => repeat' (first | exact ord_nil | (exact ord_of (by assumption) (by repeat' (first | (with_reducible assumption) | (with_reducible exact (fun _ h => h)) | (with_reducible refine sub_cons ?_) | (with_reducible refine sub_app ?_)))) | (exact ord_5a (by assumption) (by repeat' (first | (with_reducible assumption) | (with_reducible exact (fun _ h => h)) | (with_reducible refine sub_cons ?_) | (with_reducible refine sub_app ?_)))) | (exact ord_5b (by assumption) (by repeat' (first | (with_reducible assumption) | (with_reducible exact (fun _ h => h)) | (with_reducible refine sub_cons ?_) | (with_reducible refine sub_app ?_)))) | (refine ord_app ?_ ?_)))
def detM (M : Mat) : Int × Nat := dsub (dmul M.a M.d) (dmul M.b M.c)
def Determ (_ : OpenLaw) (w : World) (_ : Frag) : Prop := ∀ (x : Addr) (A : Mat) (news : Led), MatIn w news x A → MOk A → Tell w 12 271 [.ref x] news (DecNew w (detM A))
set_option maxHeartbeats 8000000 in
theorem determ (w : World) : Determ PySem.Challenge.rw_og0156_01 w (hd.heap_1 w.params) := by
  k_fill
  unfold Determ Tell
  intro x A news hx ox dp un gd cn cs fa ccd cl outer A₀ base h₀ L m s mean mg mb Q E B F X N T hk hd hu hret
  obtain ⟨xdx, xa, xb, xc, xd, xe, xf, xk1, xk2, xk3, xk4, xk5, xk6, x1, x2, xha, xhb, xhc, xhd, xhe, xhf⟩ := hx
  obtain ⟨xoa, xob, xoc, xod, xoe, xof⟩ := ox
  obtain ⟨xaqdx, xaqk1, xaqk2, xaqk3, xaqk4, xaqm1, xaqm2⟩ := xha
  obtain ⟨xbqdx, xbqk1, xbqk2, xbqk3, xbqk4, xbqm1, xbqm2⟩ := xhb
  obtain ⟨xcqdx, xcqk1, xcqk2, xcqk3, xcqk4, xcqm1, xcqm2⟩ := xhc
  obtain ⟨xdqdx, xdqk1, xdqk2, xdqk3, xdqk4, xdqm1, xdqm2⟩ := xhd
  obtain ⟨xeqdx, xeqk1, xeqk2, xeqk3, xeqk4, xeqm1, xeqm2⟩ := xhe
  obtain ⟨xfqdx, xfqk1, xfqk2, xfqk3, xfqk4, xfqm1, xfqm2⟩ := xhf
  refine wpAny_call ?_
  k_dflt ktr_enter
  repeat' (first | (k_unfold; (try dsimp only)) | (k_end; wrow_close) | (((with_reducible show wpAny _ _ (call (Value.ref _) _) _ _ _); first | (k_here; (with_reducible show wpAny _ _ (call (Value.ref 77) [Value.ref _, Value.ref _]) _ _ _); k_dflt (refine tell_use2 (by k_asm) (by k_asm) (by k_asm) (by k_asm) (by k_asm) (by first | exact rfl | assumption) (decMinus _ _ _ _ _ _ (by first | assumption | exact DecIn.mono (by assumption) (by repeat' (first | (with_reducible assumption) | (with_reducible exact (fun _ h => h)) | (with_reducible refine sub_cons ?_) | (with_reducible refine sub_app ?_))) | exact decIn_of (by k_mem) (by k_mem)) (by first | assumption | exact DecIn.mono (by assumption) (by repeat' (first | (with_reducible assumption) | (with_reducible exact (fun _ h => h)) | (with_reducible refine sub_cons ?_) | (with_reducible refine sub_app ?_))) | exact decIn_of (by k_mem) (by k_mem)) (by exact OkB.up (by ktr_rel) (by decide) (by decide)) (by exact OkB.up (by ktr_rel) (by decide) (by decide))) (by ktr_room) (by ktr_units) ?_); intro r9 tl9 h9 tk9 F9 N9 hl9 ho9; obtain ⟨x9, dx9, k19, k29, tt9, tp9, er9, et9⟩ := ho9; subst er9; subst et9; (try simp only [List.cons_append, List.nil_append] at N9); (try k_sweep); (try k_fold)) | (k_here; (with_reducible show wpAny _ _ (call (Value.ref 84) [Value.ref _, Value.ref _]) _ _ _); k_dflt (refine tell_use2 (by k_asm) (by k_asm) (by k_asm) (by k_asm) (by k_asm) (by first | exact rfl | assumption) (decTimes _ _ _ _ _ _ (by first | assumption | exact DecIn.mono (by assumption) (by repeat' (first | (with_reducible assumption) | (with_reducible exact (fun _ h => h)) | (with_reducible refine sub_cons ?_) | (with_reducible refine sub_app ?_))) | exact decIn_of (by k_mem) (by k_mem)) (by first | assumption | exact DecIn.mono (by assumption) (by repeat' (first | (with_reducible assumption) | (with_reducible exact (fun _ h => h)) | (with_reducible refine sub_cons ?_) | (with_reducible refine sub_app ?_))) | exact decIn_of (by k_mem) (by k_mem)) (by exact OkB.up (by ktr_rel) (by decide) (by decide)) (by exact OkB.up (by ktr_rel) (by decide) (by decide))) (by ktr_room) (by ktr_units) ?_); intro r9 tl9 h9 tk9 F9 N9 hl9 ho9; obtain ⟨x9, dx9, k19, k29, tt9, tp9, er9, et9⟩ := ho9; subst er9; subst et9; (try simp only [List.cons_append, List.nil_append] at N9); (try k_sweep); (try k_fold)))) | walk1 | (dsimp only; walk1) | (leave1; try dsimp only))
  exact fin_use hret (tl := [_, _]) (by assumption) (by assumption) (by assumption) (by repeat' (first | (with_reducible assumption) | (with_reducible exact (fun _ h => h)) | (with_reducible refine sub_cons ?_) | (with_reducible refine sub_app ?_))) (decNew_of rfl)
def adjR (M : Mat) (x y : Int × Nat) : Int × Nat := dsub (dmul M.d (dsub x M.e)) (dmul M.c (dsub y M.f))
def adjU (M : Mat) (x y : Int × Nat) : Int × Nat := dsub (dmul M.a (dsub y M.f)) (dmul M.b (dsub x M.e))
def Adjug (_ : OpenLaw) (w : World) (_ : Frag) : Prop := ∀ (z x y : Addr) (M : Mat) (a b : Int × Nat) (news : Led), MatIn w news z M → DecIn w news x a → DecIn w news y b → MOk M → OkB 500 50 a → OkB 500 50 b → Tell w 12 278 [.ref z, .ref x, .ref y] news (PairNew w (adjR M a b) (adjU M a b))
set_option maxHeartbeats 8000000 in
theorem adjug (w : World) : Adjug PySem.Challenge.rw_og0156_01 w (hd.heap_1 w.params) := by
  k_fill
  unfold Adjug Tell
  intro z x y M a b news hz hx hy oz oa ob dp un gd cn cs fa ccd cl outer A₀ base h₀ L m s mean mg mb Q E B F X N T hk hd hu hret
  obtain ⟨zdx, za, zb, zc, zd, ze, zf, zk1, zk2, zk3, zk4, zk5, zk6, z1, z2, zha, zhb, zhc, zhd, zhe, zhf⟩ := hz
  obtain ⟨zoa, zob, zoc, zod, zoe, zof⟩ := oz
  obtain ⟨zaqdx, zaqk1, zaqk2, zaqk3, zaqk4, zaqm1, zaqm2⟩ := zha
  obtain ⟨zbqdx, zbqk1, zbqk2, zbqk3, zbqk4, zbqm1, zbqm2⟩ := zhb
  obtain ⟨zcqdx, zcqk1, zcqk2, zcqk3, zcqk4, zcqm1, zcqm2⟩ := zhc
  obtain ⟨zdqdx, zdqk1, zdqk2, zdqk3, zdqk4, zdqm1, zdqm2⟩ := zhd
  obtain ⟨zeqdx, zeqk1, zeqk2, zeqk3, zeqk4, zeqm1, zeqm2⟩ := zhe
  obtain ⟨zfqdx, zfqk1, zfqk2, zfqk3, zfqk4, zfqm1, zfqm2⟩ := zhf
  obtain ⟨xqdx, xqk1, xqk2, xqk3, xqk4, xqm1, xqm2⟩ := hx
  obtain ⟨yqdx, yqk1, yqk2, yqk3, yqk4, yqm1, yqm2⟩ := hy
  refine wpAny_call ?_
  k_dflt ktr_enter
  repeat' (first | (k_unfold; (try dsimp only)) | (k_end; wrow_close) | (((with_reducible show wpAny _ _ (call (Value.ref _) _) _ _ _); first | (k_here; (with_reducible show wpAny _ _ (call (Value.ref 168) [Value.ref _]) _ _ _); k_dflt (refine tell_use2 (by k_asm) (by k_asm) (by k_asm) (by k_asm) (by k_asm) (by first | exact rfl | assumption) (decOfRef _ _ _ _ (by first | assumption | exact DecIn.mono (by assumption) (by repeat' (first | (with_reducible assumption) | (with_reducible exact (fun _ h => h)) | (with_reducible refine sub_cons ?_) | (with_reducible refine sub_app ?_))) | exact decIn_of (by k_mem) (by k_mem))) (by ktr_room) (by ktr_units) ?_); intro r9 tl9 h9 tk9 F9 N9 hl9 ho9; obtain ⟨er9, et9⟩ := ho9; subst er9; subst et9; clear hl9; (try simp only [List.cons_append, List.nil_append] at N9); (try k_sweep); (try k_fold)) | (k_here; (with_reducible show wpAny _ _ (call (Value.ref 168) [_]) _ _ _); k_dflt (refine tell_use2 (by k_asm) (by k_asm) (by k_asm) (by k_asm) (by k_asm) (by first | exact rfl | assumption) (decOf _ _ _ _ _ (by first | assumption | exact .inr ⟨_, rfl, by assumption⟩ | exact .inl ⟨_, _, rfl, rfl⟩) (by repeat' (first | (with_reducible assumption) | (with_reducible exact (fun _ h => h)) | (with_reducible refine sub_cons ?_) | (with_reducible refine sub_app ?_)))) (by ktr_room) (by ktr_units) ?_); intro r9 tl9 h9 tk9 F9 N9 hl9 ho9; obtain ⟨x9, er9, hin9⟩ := ho9; subst er9; (try simp only [List.nil_append, List.append_nil] at hin9); (try simp only [List.cons_append, List.nil_append] at N9); (try k_sweep); (try k_fold)) | (k_here; (with_reducible show wpAny _ _ (call (Value.ref 77) [Value.ref _, Value.ref _]) _ _ _); k_dflt (refine tell_use2 (by k_asm) (by k_asm) (by k_asm) (by k_asm) (by k_asm) (by first | exact rfl | assumption) (decMinus _ _ _ _ _ _ (by first | assumption | exact DecIn.mono (by assumption) (by repeat' (first | (with_reducible assumption) | (with_reducible exact (fun _ h => h)) | (with_reducible refine sub_cons ?_) | (with_reducible refine sub_app ?_))) | exact decIn_of (by k_mem) (by k_mem)) (by first | assumption | exact DecIn.mono (by assumption) (by repeat' (first | (with_reducible assumption) | (with_reducible exact (fun _ h => h)) | (with_reducible refine sub_cons ?_) | (with_reducible refine sub_app ?_))) | exact decIn_of (by k_mem) (by k_mem)) (by exact OkB.up (by ktr_rel) (by decide) (by decide)) (by exact OkB.up (by ktr_rel) (by decide) (by decide))) (by ktr_room) (by ktr_units) ?_); intro r9 tl9 h9 tk9 F9 N9 hl9 ho9; obtain ⟨x9, dx9, k19, k29, tt9, tp9, er9, et9⟩ := ho9; subst er9; subst et9; (try simp only [List.cons_append, List.nil_append] at N9); (try k_sweep); (try k_fold)) | (k_here; (with_reducible show wpAny _ _ (call (Value.ref 84) [Value.ref _, Value.ref _]) _ _ _); k_dflt (refine tell_use2 (by k_asm) (by k_asm) (by k_asm) (by k_asm) (by k_asm) (by first | exact rfl | assumption) (decTimes _ _ _ _ _ _ (by first | assumption | exact DecIn.mono (by assumption) (by repeat' (first | (with_reducible assumption) | (with_reducible exact (fun _ h => h)) | (with_reducible refine sub_cons ?_) | (with_reducible refine sub_app ?_))) | exact decIn_of (by k_mem) (by k_mem)) (by first | assumption | exact DecIn.mono (by assumption) (by repeat' (first | (with_reducible assumption) | (with_reducible exact (fun _ h => h)) | (with_reducible refine sub_cons ?_) | (with_reducible refine sub_app ?_))) | exact decIn_of (by k_mem) (by k_mem)) (by exact OkB.up (by ktr_rel) (by decide) (by decide)) (by exact OkB.up (by ktr_rel) (by decide) (by decide))) (by ktr_room) (by ktr_units) ?_); intro r9 tl9 h9 tk9 F9 N9 hl9 ho9; obtain ⟨x9, dx9, k19, k29, tt9, tp9, er9, et9⟩ := ho9; subst er9; subst et9; (try simp only [List.cons_append, List.nil_append] at N9); (try k_sweep); (try k_fold)))) | walk1 | (dsimp only; walk1) | (leave1; try dsimp only))
  refine pair_at hret (by assumption) (by assumption) (by k_mem) (by k_mem) (by k_mem) (by k_mem) (by k_mem) (by repeat' (first | (with_reducible assumption) | (with_reducible exact (fun _ h => h)) | (with_reducible refine sub_cons ?_) | (with_reducible refine sub_app ?_))) (ktn_ltOf (by first | assumption | exact allLt_of (by assumption) | (rename ((_ : Nat) < _ ∧ _) => hA; revert hA; simp only [and_imp]; intros; assumption))) (ord_of (by assumption) (by repeat' (first | (with_reducible assumption) | (with_reducible exact (fun _ h => h)) | (with_reducible refine sub_cons ?_) | (with_reducible refine sub_app ?_)))) (ord_of (by assumption) (by repeat' (first | (with_reducible assumption) | (with_reducible exact (fun _ h => h)) | (with_reducible refine sub_cons ?_) | (with_reducible refine sub_app ?_))))
theorem OkB.adjR {M : Mat} {x y : Int × Nat} (o : MOk M) (hx : OkB 500 50 x) (hy : OkB 500 50 y) : OkB 2500 100 (adjR M x y) :=
  (OkB.sub (OkB.mul o.d (OkB.sub hx o.e)) (OkB.mul o.c (OkB.sub hy o.f))).up (by decide) (by decide)
theorem OkB.adjU {M : Mat} {x y : Int × Nat} (o : MOk M) (hx : OkB 500 50 x) (hy : OkB 500 50 y) : OkB 2500 100 (adjU M x y) :=
  (OkB.sub (OkB.mul o.a (OkB.sub hy o.f)) (OkB.mul o.b (OkB.sub hx o.e))).up (by decide) (by decide)
theorem over_facts {B P : Nat} {R S : Int × Nat} (hS : S = (1, 0)) (oR : OkB B P R) (hB : B ≤ 2500) (hP : P ≤ 100) :
    Builtin.Int.intBits (up R (max R.2 S.2)) ≤ 10000 ∧ Builtin.Int.intBits (up S (max R.2 S.2)) ≤ 8000 ∧ up S (max R.2 S.2) ≠ 0 := by
  subst hS
  have h2 := oR.2
  refine ⟨Nat.le_trans (up_bits oR (by simpa using h2)) (by omega), ?_, ?_⟩
  · unfold up
    rw [Int.one_mul]
    exact Nat.le_trans (ten_bits (by simp only []; omega)) (by decide)
  · unfold up
    rw [Int.one_mul]
    exact ten_ne _
def Inverse (_ : OpenLaw) (w : World) (_ : Frag) : Prop := ∀ (z x y : Addr) (M : Mat) (a b : Int × Nat) (k : Int) (tk : Tok) (news : Led), MatIn w news z M → DecIn w news x a → DecIn w news y b → MOk M → OkB 500 50 a → OkB 500 50 b → detM M = (1, 0) → 0 ≤ k → k ≤ 20 → Tell w 20 285 [.ref z, .ref x, .ref y, .int k tk] news (PairNew w (dover (adjR M a b) (detM M) k.toNat) (dover (adjU M a b) (detM M) k.toNat))
set_option maxHeartbeats 8000000 in
theorem inverse_ (w : World) : Inverse PySem.Challenge.rw_og0156_01 w (hd.heap_1 w.params) := by
  k_fill
  unfold Inverse Tell
  intro z x y M a b k tk news hz hx hy oz oa ob hdet hk0 hk20 dp un gd cn cs fa ccd cl outer A₀ base h₀ L m s mean mg mb Q E B F X N T hk hd hu hret
  have oR := OkB.adjR oz oa ob
  have oU := OkB.adjU oz oa ob
  obtain ⟨fR1, fR2, fR3⟩ := over_facts hdet oR (by decide) (by decide)
  obtain ⟨fU1, fU2, fU3⟩ := over_facts hdet oU (by decide) (by decide)
  have oD : OkB 2500 100 (detM M) := by rw [hdet]; exact ⟨by decide, by decide⟩
  refine wpAny_call ?_
  k_dflt ktr_enter
  repeat' (first | (k_unfold; (try dsimp only)) | (k_end; wrow_close) | (((with_reducible show wpAny _ _ (call (Value.ref _) _) _ _ _); first | (k_here; (with_reducible show wpAny _ _ (call (Value.ref 278) [_, _, _]) _ _ _); k_dflt (refine tell_use2 (by k_asm) (by k_asm) (by k_asm) (by k_asm) (by k_asm) (by first | exact rfl | assumption) (adjug _ _ _ _ _ _ _ _ (by first | assumption | exact MatIn.mono (by assumption) (by repeat' (first | (with_reducible assumption) | (with_reducible exact (fun _ h => h)) | (with_reducible refine sub_cons ?_) | (with_reducible refine sub_app ?_)))) (by first | assumption | exact DecIn.mono (by assumption) (by repeat' (first | (with_reducible assumption) | (with_reducible exact (fun _ h => h)) | (with_reducible refine sub_cons ?_) | (with_reducible refine sub_app ?_))) | exact decIn_of (by k_mem) (by k_mem)) (by first | assumption | exact DecIn.mono (by assumption) (by repeat' (first | (with_reducible assumption) | (with_reducible exact (fun _ h => h)) | (with_reducible refine sub_cons ?_) | (with_reducible refine sub_app ?_))) | exact decIn_of (by k_mem) (by k_mem)) (by assumption) (by ktr_rel) (by ktr_rel)) (by ktr_room) (by ktr_units) ?_); intro r9 tl9 h9 tk9 F9 N9 hl9 ho9; obtain ⟨D9, x9, dx9, y9, dy9, k19, k29, k39, k49, k59, k69, k79, k89, c9, er9, et9⟩ := ho9; subst er9; subst et9; (try simp only [List.cons_append, List.nil_append] at N9); (try k_sweep); (try k_fold)) | (k_here; (with_reducible show wpAny _ _ (call (Value.ref 271) [_]) _ _ _); k_dflt (refine tell_use2 (by k_asm) (by k_asm) (by k_asm) (by k_asm) (by k_asm) (by first | exact rfl | assumption) (determ _ _ _ _ (by first | assumption | exact MatIn.mono (by assumption) (by repeat' (first | (with_reducible assumption) | (with_reducible exact (fun _ h => h)) | (with_reducible refine sub_cons ?_) | (with_reducible refine sub_app ?_)))) (by assumption)) (by ktr_room) (by ktr_units) ?_); intro r9 tl9 h9 tk9 F9 N9 hl9 ho9; obtain ⟨x9, dx9, k19, k29, tt9, tp9, er9, et9⟩ := ho9; subst er9; subst et9; (try simp only [List.cons_append, List.nil_append] at N9); (try k_sweep); (try k_fold)) | (k_here; (with_reducible show wpAny _ _ (call (Value.ref 182) [Value.ref _, Value.ref _, Value.int _ _]) _ _ _); k_dflt (refine tell_use2 (by k_asm) (by k_asm) (by k_asm) (by k_asm) (by k_asm) (by first | exact rfl | assumption) (over_ _ _ _ _ _ _ _ _ (by first | assumption | exact DecIn.mono (by assumption) (by repeat' (first | (with_reducible assumption) | (with_reducible exact (fun _ h => h)) | (with_reducible refine sub_cons ?_) | (with_reducible refine sub_app ?_))) | exact decIn_of (by k_mem) (by k_mem)) (by first | assumption | exact DecIn.mono (by assumption) (by repeat' (first | (with_reducible assumption) | (with_reducible exact (fun _ h => h)) | (with_reducible refine sub_cons ?_) | (with_reducible refine sub_app ?_))) | exact decIn_of (by k_mem) (by k_mem)) (by exact OkB.up (by ktr_rel) (by decide) (by decide)) (by exact OkB.up (by ktr_rel) (by decide) (by decide)) (by omega) (by omega) (by assumption) (by assumption) (by assumption)) (by ktr_room) (by ktr_units) ?_); intro r9 tl9 h9 tk9 F9 N9 hl9 ho9; obtain ⟨x9, dx9, k19, k29, tt9, tp9, er9, et9⟩ := ho9; subst er9; subst et9; (try simp only [List.cons_append, List.nil_append] at N9); (try k_sweep); (try k_fold)))) | walk1 | (dsimp only; walk1) | (leave1; try dsimp only))
  refine pair_at hret (by assumption) (by assumption) (by k_mem) (by k_mem) (by k_mem) (by k_mem) (by k_mem) (by repeat' (first | (with_reducible assumption) | (with_reducible exact (fun _ h => h)) | (with_reducible refine sub_cons ?_) | (with_reducible refine sub_app ?_))) (ktn_ltOf (by first | assumption | exact allLt_of (by assumption) | (rename ((_ : Nat) < _ ∧ _) => hA; revert hA; simp only [and_imp]; intros; assumption))) (ord_of (by assumption) (by repeat' (first | (with_reducible assumption) | (with_reducible exact (fun _ h => h)) | (with_reducible refine sub_cons ?_) | (with_reducible refine sub_app ?_)))) (ord_of (by assumption) (by repeat' (first | (with_reducible assumption) | (with_reducible exact (fun _ h => h)) | (with_reducible refine sub_cons ?_) | (with_reducible refine sub_app ?_))))
/-- the pen: its cells, the next spot, the rest of a great cell -/
abbrev penO (ca : Addr) (spot rest : Int) (t1 t2 : Tok) (n : Nat) : Obj := listOf #[.ref ca, .int spot t1, .int rest t2] n
theorem drop_to {h₀ h : Heap} {L : Addr} {big small : Led} (N : News h₀ L h big) (hs : ∀ p ∈ small, p ∈ big) : News h₀ L h small := fun p hp => N p (hs p hp)
theorem pen_set {prog : Program} {w : World} {A : Around} {E : Value → Shared → Prop} {s : Shared} {h₀ : Heap} {L D : Addr} {m : Str → Option Value} {oth : Led} {vs vs' : List Value} {n : Nat} {k : Int} {v : Value} {t : Tok} {Q : Unit → Shared → Prop}
    (F : Fr h₀ L s.heap m) (N : News h₀ L s.heap ((D, listOf vs.toArray n) :: oth)) (hoff : ∀ p ∈ oth, p.1 ≠ D) (h0 : 0 ≤ k) (h1 : k < vs.length) (hfit : k < 2 ^ 63) (e : vs.set k.toNat v = vs')
    (h : ∀ h', Fr h₀ L h' m → News h₀ L h' ((D, listOf vs'.toArray n) :: oth) → Q () { s with heap := h' }) :
    wpAny (model prog w) A (setItem (.ref D) (.int k t) v) Q E s := by
  subst e
  have z := N (D, listOf vs.toArray n) (.head _)
  refine ki_setAt z.1 h0 hfit (by rw [List.size_toArray]; omega) (h _ (F.change (Heap.SameBut.update ..) z.2.1 z.2.2) (ki_turn (pre := []) _ N (fun _ h => nomatch h) hoff ?_ ?_))
  · show vs.toArray.setIfInBounds k.toNat v = (vs.set k.toNat v).toArray
    apply Array.toList_inj.mp
    simp
  · simp
theorem pset1 {a b c v : Value} : [a, b, c].set (Int.toNat 1) v = [a, v, c] := rfl
theorem pset2 {a b c v : Value} : [a, b, c].set (Int.toNat 2) v = [a, b, v] := rfl
local macro_rules | `(tactic| walk_at "setItem ref int") => `(tactic| (k_here; k_dflt (refine' pen_set ?k1 ?k2 ?k3 ?k4 ?k5 ?k6 ?k7 ?_; (case k1 => k_asm); (case k2 => first | (with_reducible assumption) | exact drop_to (by k_asm) (fun _ h => List.mem_cons_of_mem _ h)); (case k3 => assumption); (case k4 => decide); (case k5 => (simp only [List.length_cons, List.length_nil]; omega)); (case k6 => decide); (case k7 => first | exact pset1 | exact pset2); k_whole); intro h' F' N'; (try k_sweep)))
theorem ne_nil {prog : Program} {w : World} {A : Around} {E : Value → Shared → Prop} {s : Shared} {a b : Addr} {vs us : List Value} {ns : List Int} {Q : Value → Shared → Prop} (hl : s.heap.IsList a vs.toArray) (hi : IntsAre vs ns) (hl' : s.heap.IsList b us.toArray) (hi' : IntsAre us [])
    (hu : A.units + 64 < cLine) (hne : ns ≠ []) (h : Q (.bool true) s) : wpAny (model prog w) A (compareOp .NotEq (.ref a) (.ref b)) Q E s :=
  ne_intsK hl hi hl' hi' hu (by rw [decide_eq_false hne]; exact h)
theorem ne_nil' {prog : Program} {w : World} {A : Around} {E : Value → Shared → Prop} {s : Shared} {a b : Addr} {vs us : List Value} {ns : List Int} {Q : Value → Shared → Prop} (hl : s.heap.IsList a vs.toArray) (hi : IntsAre vs ns) (hl' : s.heap.IsList b us.toArray) (hi' : IntsAre us [])
    (hu : A.units + 64 < cLine) (hne : ns = []) (h : Q (.bool false) s) : wpAny (model prog w) A (compareOp .NotEq (.ref a) (.ref b)) Q E s :=
  ne_intsK hl hi hl' hi' hu (by rw [decide_eq_true hne]; exact h)
theorem pow5_ok {c spot : Int} (h0 : 0 ≤ spot) (h1 : spot ≤ 1000) : (c.fmod 2147483587 + 90019 * spot + 6007).natAbs < 2 ^ 64 := by
  have := fmod_lo c (n := 2147483587) (by decide)
  have := fmod_hi c (n := 2147483587) (by decide)
  omega
theorem pow3_ok {c spot : Int} (h0 : 0 ≤ spot) (h1 : spot ≤ 1000) : (c.fmod 2147483629 * (2 * spot + 3011) + 701 * spot * spot + 37).natAbs < 2 ^ 64 := by
  have a0 := fmod_lo c (n := 2147483629) (by decide)
  have a1 := fmod_hi c (n := 2147483629) (by decide)
  have b1 : c.fmod 2147483629 * (2 * spot + 3011) ≤ 2147483629 * 5011 := Int.mul_le_mul (by omega) (by omega) (by omega) (by decide)
  have b0 : 0 ≤ c.fmod 2147483629 * (2 * spot + 3011) := Int.mul_nonneg a0 (by omega)
  have c1 : 701 * spot * spot ≤ 701000 * 1000 := Int.mul_le_mul (by omega) (by omega) (by omega) (by decide)
  have c0 : 0 ≤ 701 * spot * spot := Int.mul_nonneg (by omega) h0
  generalize c.fmod 2147483629 * (2 * spot + 3011) = X at *
  generalize 701 * spot * spot = Y at *
  omega
local macro_rules | `(tactic| walk_at "compareOp NotEq ref ref") => `(tactic| (k_here; (with_reducible show wpAny _ _ (compareOp CmpOp.NotEq (Value.ref _) (Value.ref _)) _ _ _); k_dflt (first
  | (refine' ne_nil ?k1 ?k2 ?k3 ?k4 ?k5 ?k6 ?_; (case k1 => is_list); (case k2 => assumption); (case k3 => is_list); (case k4 => exact IntsAre.nil); (case k5 => ktr_units); (case k6 => assumption))
  | (refine' ne_nil' ?k1 ?k2 ?k3 ?k4 ?k5 ?k6 ?_; (case k1 => is_list); (case k2 => assumption); (case k3 => is_list); (case k4 => exact IntsAre.nil); (case k5 => ktr_units); (case k6 => assumption)))))
local macro_rules | `(tactic| walk_at "binaryOp Pow int int") => `(tactic| (k_here; (refine pow_int_small ?ka ?kb ?kc ?_); (case ka => decide); (case kb => decide); (case kc => first | exact pow5_ok (by assumption) (by assumption) | exact pow3_ok (by assumption) (by assumption) | decide)))
local macro_rules | `(tactic| walk_at "binaryOp Mod int int") => `(tactic| (k_here; refine mod_int (by assumption) ?_))
local macro_rules | `(tactic| walk_at "binaryOp FloorDiv int int") => `(tactic| (k_here; refine floordiv_int (by assumption) ?_ (Or.inl (PyProof.noPylong_small (by assumption)))))
/-- the cells stand in the ledger -/
def CellsIn (l : Led) (ca : Addr) : Prop := ∃ (cs : List Value) (ns : List Int) (n : Nat), (ca, listOf cs.toArray n) ∈ l ∧ IntsAre cs ns ∧ ns.length ≤ 63
def Draw (_ : OpenLaw) (w : World) (_ : Frag) : Prop :=
  ∀ (pa ca : Addr) (spot rest many : Int) (t1 t2 tm : Tok) (n : Nat) (oth : Led), CellsIn oth ca → (∀ p ∈ oth, p.1 ≠ pa) → 0 ≤ spot → spot ≤ 1000 → 0 ≤ rest → 1 ≤ many → many ≤ 10000 →
  ∀ (dp un : Nat) (gd : Option (List Code)) (cn : Str) (cs : Scope) (a : Addr) (ccd : Value) (cl : List (Str × Addr)) (outer : List Env) (A₀ : Around) (base h₀ : Heap) (L : Addr) (m : Str → Option Value) (s : Shared)
    (mean : ExcName → Option Value) (mg mb : Str → Option Value) (Q E : Value → Shared → Prop),
    Below A₀ base outer h₀ → Fr h₀ L s.heap m → (hd.heap_1 w.params).In h₀ → News h₀ L s.heap ((pa, penO ca spot rest t1 t2 n) :: oth) → Top view_ (looseW view_ [Str.ofString "PaperError"]) mean mg mb h₀ → cs.kind = .function →
    dp + 20 < recursionLimit → un + 160 < cLine →
    (∀ d spot' rest' td t1' t2' n' h' tk', Fr h₀ L h' m → News h₀ L h' ((pa, penO ca spot' rest' t1' t2' n') :: oth) → 0 ≤ d → d < many → 0 ≤ spot' → spot' ≤ spot + 1 → 0 ≤ rest' → Q (.int d td) { s with heap := h', toks := tk' }) →
    wpAny (model PySem.Challenge.rw_og0156_01.row.prog w) (ktrTop dp un gd cn cs L a ccd cl outer) (call (.ref 297) [.ref pa, .int many tm]) Q E s
theorem nonneg_fdiv {a b : Int} (ha : 0 ≤ a) (hb : 1 ≤ b) : 0 ≤ a.fdiv b := by
  rw [Int.fdiv_eq_ediv_of_nonneg _ (by omega)]; exact Int.ediv_nonneg ha (by omega)
set_option maxHeartbeats 8000000 in
theorem draw_ (w : World) : Draw PySem.Challenge.rw_og0156_01 w (hd.heap_1 w.params) := by
  k_fill
  unfold Draw
  intro pa ca spot rest many t1 t2 tm n oth hc hoff hs0 hs1 hr0 hm1 hm2 dp un gd cn cs fa ccd cl outer A₀ base h₀ L m s mean mg mb Q E B F X N T hk hd hu hret
  obtain ⟨vs, ns, n', hin, hints, hlen⟩ := hc
  have hmz : many ≠ 0 := by omega
  have hmp : many.natAbs < 1073741824 := by omega
  have hlp : (ns.length : Int).natAbs < 1073741824 := by omega
  by_cases hr : 0 < rest
  · refine wpAny_call ?_
    k_dflt ktr_enter
    repeat' (first | (k_unfold; (try dsimp only)) | (k_end; wrow_close) | walk1 | (dsimp only; walk1) | (leave1; try dsimp only))
    all_goals (
      refine' hret _ _ _ _ _ _ _ _ _ ?f (drop_to ?fN ?fs) ?z1 ?z2 ?fa ?fb ?fc
      (case f => assumption)
      (case fN => assumption)
      (case fs => repeat' (first | (with_reducible exact sub_hd) | (with_reducible exact List.forall_mem_nil _) | (with_reducible refine List.forall_mem_append.mpr ⟨?_, ?_⟩) | (with_reducible refine List.forall_mem_cons.mpr ⟨?_, ?_⟩) | (with_reducible exact (fun _ h => h)) | (with_reducible refine sub_cons ?_) | (with_reducible refine sub_app ?_) | k_mem))
      (case z1 => exact fmod_lo _ (by omega))
      (case z2 => exact fmod_hi _ (by omega))
      (case fa => omega)
      (case fb => omega)
      (case fc => first | omega | exact nonneg_fdiv (by omega) hm1))
  · by_cases hns : ns = []
    · refine wpAny_call ?_
      k_dflt ktr_enter
      repeat' (first | (k_unfold; (try dsimp only)) | (k_end; wrow_close) | walk1 | (dsimp only; walk1) | (leave1; try dsimp only))
      all_goals (
        refine' hret _ _ _ _ _ _ _ _ _ ?f (drop_to ?fN ?fs) ?z1 ?z2 ?fa ?fb ?fc
        (case f => assumption)
        (case fN => assumption)
        (case fs => repeat' (first | (with_reducible exact sub_hd) | (with_reducible exact List.forall_mem_nil _) | (with_reducible refine List.forall_mem_append.mpr ⟨?_, ?_⟩) | (with_reducible refine List.forall_mem_cons.mpr ⟨?_, ?_⟩) | (with_reducible exact (fun _ h => h)) | (with_reducible refine sub_cons ?_) | (with_reducible refine sub_app ?_) | k_mem))
        (case z1 => exact fmod_lo _ (by omega))
        (case z2 => exact fmod_hi _ (by omega))
        (case fa => omega)
        (case fb => omega)
        (case fc => first | omega | exact nonneg_fdiv (by omega) hm1))
    · have hlz : (ns.length : Int) ≠ 0 := by
        cases ns with
        | nil => exact absurd rfl hns
        | cons _ _ => simp only [List.length_cons]; omega
      have hlq : 0 < ns.length := by omega
      refine wpAny_call ?_
      k_dflt ktr_enter
      repeat' (first | (k_unfold; (try dsimp only)) | (k_end; wrow_close) | walk1 | (dsimp only; walk1) | (leave1; try dsimp only))
      all_goals (
        refine' hret _ _ _ _ _ _ _ _ _ ?f (drop_to ?fN ?fs) ?z1 ?z2 ?fa ?fb ?fc
        (case f => assumption)
        (case fN => assumption)
        (case fs => repeat' (first | (with_reducible exact sub_hd) | (with_reducible exact List.forall_mem_nil _) | (with_reducible refine List.forall_mem_append.mpr ⟨?_, ?_⟩) | (with_reducible refine List.forall_mem_cons.mpr ⟨?_, ?_⟩) | (with_reducible exact (fun _ h => h)) | (with_reducible refine sub_cons ?_) | (with_reducible refine sub_app ?_) | k_mem))
        (case z1 => exact fmod_lo _ (by omega))
        (case z2 => exact fmod_hi _ (by omega))
        (case fa => omega)
        (case fb => omega)
        (case fc => first | omega | exact nonneg_fdiv (by omega) hm1))
/-- the pen drawn out of the ledger -/
inductive Pull (a : Addr) : Led → Obj → Led → Prop where
  | head {o : Obj} {l : Led} : Pull a ((a, o) :: l) o l
  | tail {o : Obj} {q : Addr × Obj} {l r : Led} : Pull a l o r → Pull a (q :: l) o (q :: r)
  | app {o : Obj} {t l r : Led} : Pull a l o r → Pull a (t ++ l) o (t ++ r)
theorem Pull.sub {a : Addr} {l r : Led} {o : Obj} (h : Pull a l o r) : ∀ p ∈ (a, o) :: r, p ∈ l := by
  induction h with
  | head => exact fun _ h => h
  | tail _ ih =>
    intro p hp
    rcases List.mem_cons.mp hp with rfl | hp
    · exact .tail _ (ih _ (.head _))
    · rcases List.mem_cons.mp hp with rfl | hp
      · exact .head _
      · exact .tail _ (ih _ (.tail _ hp))
  | app _ ih =>
    intro p hp
    rcases List.mem_cons.mp hp with rfl | hp
    · exact List.mem_append.mpr (.inr (ih _ (.head _)))
    · rcases List.mem_append.mp hp with hp | hp
      · exact List.mem_append.mpr (.inl hp)
      · exact List.mem_append.mpr (.inr (ih _ (.tail _ hp)))
abbrev Off (a : Addr) (l : Led) : Prop := ∀ p ∈ l, p.1 ≠ a
theorem off_nil {a : Addr} : Off a [] := fun _ h => nomatch h
theorem off_app {a : Addr} {l r : Led} (h : ∀ p ∈ l, p.1 ≠ a) (k : ∀ p ∈ r, p.1 ≠ a) : ∀ p ∈ l ++ r, p.1 ≠ a := fun p hp => (List.mem_append.mp hp).elim (h p) (k p)
theorem off_pair {a : Addr} {x y : Addr × Obj} {r : Led} (h : ∀ p ∈ [x, y], p.1 ≠ a) (k : ∀ p ∈ r, p.1 ≠ a) : ∀ p ∈ x :: y :: r, p.1 ≠ a := off_app (l := [x, y]) h k
theorem off_one {a : Addr} {x : Addr × Obj} {r : Led} (h : ∀ p ∈ [x], p.1 ≠ a) (k : ∀ p ∈ r, p.1 ≠ a) : ∀ p ∈ x :: r, p.1 ≠ a := off_app (l := [x]) h k
theorem off_cons {a b : Addr} {o : Obj} {r : Led} (h : b ≠ a) (k : ∀ p ∈ r, p.1 ≠ a) : ∀ p ∈ (b, o) :: r, p.1 ≠ a := off_app (l := [(b, o)]) (fun p hp => by rw [List.mem_singleton.mp hp]; exact h) k
theorem off_of_lt {a b : Addr} {led : Led} {o : Obj} (h : AllLt b led) (hm : (a, o) ∈ led) : b ≠ a := Nat.ne_of_gt (ktn_ltOf h _ hm)
/-- the ledger's front, before what stood -/
inductive Ends (o : Led) : Led → Led → Prop where
  | nil : Ends o o []
  | cons {q : Addr × Obj} {l t : Led} : Ends o l t → Ends o (q :: l) (q :: t)
  | app {a l t : Led} : Ends o l t → Ends o (a ++ l) (a ++ t)
theorem Ends.eq {o l t : Led} (h : Ends o l t) : l = t ++ o := by
  induction h with
  | nil => rfl
  | cons _ ih => rw [ih]; rfl
  | app _ ih => rw [ih, List.append_assoc]
theorem news_ends {h₀ h : Heap} {L a : Addr} {big l t o : Led} {ob : Obj} (N : News h₀ L h big) (P : Pull a big ob l) (e : Ends o l t) : News h₀ L h ((a, ob) :: (t ++ o)) := by
  rw [← e.eq]; exact drop_to N P.sub
theorem ord_lt {led oth : Led} {D : Addr} {o : Obj} (h : ∀ p ∈ led, p.1 < D) (hs : ∀ q ∈ oth, q ∈ led) : Ord oth [(D, o)] := fun q hq p hp => by rw [List.mem_singleton.mp hp]; exact h q (hs q hq)
theorem off_lt2 {a b : Addr} {led : Led} {o : Obj} (h : ∀ p ∈ led, p.1 < b) (hm : (a, o) ∈ led) : b ≠ a := Nat.ne_of_gt (h _ hm)
theorem CellsIn.mono {l l' : Led} {ca : Addr} (h : CellsIn l ca) (hs : ∀ p ∈ l, p ∈ l') : CellsIn l' ca := let ⟨cs, ns, n, h1, h2⟩ := h; ⟨cs, ns, n, hs _ h1, h2⟩
theorem draw_use {w : World} {pa ca : Addr} {spot rest many : Int} {t1 t2 tm : Tok} {n : Nat} {oth big : Led} {dp un : Nat} {gd : Option (List Code)} {cn : Str} {cs : Scope} {a : Addr} {ccd : Value} {cl : List (Str × Addr)} {outer : List Env} {A₀ : Around} {base h₀ : Heap} {L : Addr} {m : Str → Option Value} {s : Shared}
    {mean : ExcName → Option Value} {mg mb : Str → Option Value} {Q E : Value → Shared → Prop}
    (B : Below A₀ base outer h₀) (F : Fr h₀ L s.heap m) (X : (hd.heap_1 w.params).In h₀) (N : News h₀ L s.heap big) (P : Pull pa big (penO ca spot rest t1 t2 n) oth) (T : Top view_ (looseW view_ [Str.ofString "PaperError"]) mean mg mb h₀) (hk : cs.kind = .function)
    (hc : CellsIn oth ca) (hoff : ∀ p ∈ oth, p.1 ≠ pa) (h1 : 0 ≤ spot) (h2 : spot ≤ 1000) (h3 : 0 ≤ rest) (h4 : 1 ≤ many) (h5 : many ≤ 10000) (hd : dp + 20 < recursionLimit) (hu : un + 160 < cLine)
    (ret : ∀ d spot' rest' td t1' t2' n' h' tk', Fr h₀ L h' m → News h₀ L h' ((pa, penO ca spot' rest' t1' t2' n') :: oth) → 0 ≤ d → d < many → 0 ≤ spot' → spot' ≤ spot + 1 → 0 ≤ rest' → Q (.int d td) { s with heap := h', toks := tk' }) :
    wpAny (model PySem.Challenge.rw_og0156_01.row.prog w) (ktrTop dp un gd cn cs L a ccd cl outer) (call (.ref 297) [.ref pa, .int many tm]) Q E s :=
  draw_ w pa ca spot rest many t1 t2 tm n oth hc hoff h1 h2 h3 h4 h5 dp un gd cn cs a ccd cl outer A₀ base h₀ L m s mean mg mb Q E B F X (drop_to N P.sub) T hk hd hu ret
local macro_rules | `(tactic| walk_at "call ref") => `(tactic| (k_here; (with_reducible show wpAny _ _ (call (Value.ref 297) [Value.ref _, Value.int _ _]) _ _ _); k_dflt (refine' draw_use ?kB ?kF ?kX ?kN ?kP ?kT ?kK ?kc ?koff ?ks0 ?ks1 ?kr ?km1 ?km2 ?kd ?ku ?_; (case kB => k_asm); (case kF => k_asm); (case kX => k_asm); (case kN => k_asm); (case kP => repeat' (first | exact Pull.head | (with_reducible refine' Pull.tail ?_) | (with_reducible refine' Pull.app ?_))); (case kT => k_asm); (case kK => first | exact rfl | assumption); (case kc => (refine' CellsIn.mono ?cx ?cy; (case cx => assumption); (case cy => repeat' (first | (with_reducible assumption) | (with_reducible exact (fun _ h => h)) | (with_reducible refine sub_cons ?_) | (with_reducible refine sub_app ?_))))); (case koff => repeat' (first | (with_reducible assumption) | (with_reducible exact off_nil) | (refine off_pair (off_of (by assumption) (by k_mem)) ?_) | (refine off_one (off_of (by assumption) (by k_mem)) ?_) | (refine off_app (off_of (by assumption) (by k_mem)) ?_) | (refine off_cons (off_lt2 (by assumption) (by k_mem)) ?_) | (refine off_cons (off_of_lt (by assumption) (by k_mem)) ?_))); (case ks0 => omega); (case ks1 => omega); (case kr => omega); (case km1 => omega); (case km2 => omega); (case kd => ktr_room); (case ku => ktr_units); intro d9 spot9 rest9 td9 t19 t29 n9 h9 tk9 F9 N9 hd90 hd91 hs90 hs91 hr9; (try k_sweep); (try k_fold))))
def turnM (n : Int) : Mat := ⟨(qcos (n.fmod 4), 0), (qsin (n.fmod 4), 0), (-qsin (n.fmod 4), 0), (qcos (n.fmod 4), 0), (0, 0), (0, 0)⟩
def skewM (across upward : Int × Nat) : Mat := ⟨(1, 0), upward, across, (1, 0), (0, 0), (0, 0)⟩
def transM (x y : Int × Nat) : Mat := ⟨(1, 0), (0, 0), (0, 0), (1, 0), x, y⟩
/-- a number with a place -/
def Dig (d : Int × Nat) : Prop := ∃ t : Int, -150 ≤ t ∧ t ≤ 150 ∧ d = nrm t 1
/-- a step and the contrary one -/
inductive StepOk : Mat → Mat → Prop where
  | turn (k : Int) : 0 ≤ k → k < 4 → StepOk (turnM k) (turnM (-k))
  | across (d : Int × Nat) : Dig d → StepOk (skewM d (0, 0)) (skewM (dneg d) (0, 0))
  | upward (d : Int × Nat) : Dig d → StepOk (skewM (0, 0) d) (skewM (0, 0) (dneg d))
  | trans (d e : Int × Nat) : Dig d → Dig e → StepOk (transM d e) (transM (dneg d) (dneg e))
def StepIn (w : World) (l : Led) (r : Value) (A B : Mat) : Prop := ∃ D x y c, r = .ref D ∧ (D, ({ cls := .type "tuple", data := .seq #[.ref x, .ref y] c } : Obj)) ∈ l ∧ MatIn w l x A ∧ MatIn w l y B
theorem StepIn.mono {w : World} {l l' : Led} {r : Value} {A B : Mat} (h : StepIn w l r A B) (hs : ∀ p ∈ l, p ∈ l') : StepIn w l' r A B :=
  let ⟨D, x, y, c, e, h1, h2, h3⟩ := h; ⟨D, x, y, c, e, hs _ h1, h2.mono hs, h3.mono hs⟩
def LawStep (_ : OpenLaw) (w : World) (_ : Frag) : Prop :=
  ∀ (pa ca : Addr) (spot rest : Int) (t1 t2 : Tok) (n : Nat) (oth : Led), CellsIn oth ca → (∀ p ∈ oth, p.1 ≠ pa) → 0 ≤ spot → spot ≤ 900 → 0 ≤ rest →
  ∀ (dp un : Nat) (gd : Option (List Code)) (cn : Str) (cs : Scope) (a : Addr) (ccd : Value) (cl : List (Str × Addr)) (outer : List Env) (A₀ : Around) (base h₀ : Heap) (L : Addr) (m : Str → Option Value) (s : Shared)
    (mean : ExcName → Option Value) (mg mb : Str → Option Value) (Q E : Value → Shared → Prop),
    Below A₀ base outer h₀ → Fr h₀ L s.heap m → (hd.heap_1 w.params).In h₀ → News h₀ L s.heap ((pa, penO ca spot rest t1 t2 n) :: oth) → Top view_ (looseW view_ [Str.ofString "PaperError"]) mean mg mb h₀ → cs.kind = .function →
    dp + 80 < recursionLimit → un + 640 < cLine →
    (∀ r spot' rest' t1' t2' n' tl h' tk' A' B', Fr h₀ L h' m → News h₀ L h' ((pa, penO ca spot' rest' t1' t2' n') :: (tl ++ oth)) → Ord oth tl → (∀ p ∈ tl, p.1 ≠ pa) → 0 ≤ spot' → spot' ≤ spot + 4 → 0 ≤ rest' → StepOk A' B' → StepIn w tl r A' B' → Q r { s with heap := h', toks := tk' }) →
    wpAny (model PySem.Challenge.rw_og0156_01.row.prog w) (ktrTop dp un gd cn cs L a ccd cl outer) (call (.ref 304) [.ref pa]) Q E s
set_option maxHeartbeats 8000000 in
theorem lawStep (w : World) : LawStep PySem.Challenge.rw_og0156_01 w (hd.heap_1 w.params) := by
  k_fill
  unfold LawStep
  intro pa ca spot rest t1 t2 n oth hc hoff hs0 hs1 hr0 dp un gd cn cs fa ccd cl outer A₀ base h₀ L m s mean mg mb Q E B F X N T hk hd hu hret
  refine wpAny_call ?_
  k_dflt ktr_enter
  repeat' (first | (k_unfold; (try dsimp only)) | (k_end; wrow_close) | (((with_reducible show wpAny _ _ (call (Value.ref _) _) _ _ _); first | (k_here; (with_reducible show wpAny _ _ (call (Value.ref 257) [Value.int _ _]) _ _ _); k_dflt (refine tell_use2 (by k_asm) (by k_asm) (by k_asm) (by k_asm) (by k_asm) (by first | exact rfl | assumption) (quarter_ _ _ _ _) (by ktr_room) (by ktr_units) ?_); intro r9 tl9 h9 tk9 F9 N9 hl9 ho9; obtain ⟨x9, er9, hin9⟩ := ho9; subst er9; (try simp only [List.nil_append, List.append_nil] at hin9); (try simp only [List.cons_append, List.nil_append] at N9); (try k_sweep); (try k_fold)) | (k_here; (with_reducible show wpAny _ _ (call (Value.ref 264) [_, _]) _ _ _); k_dflt (refine tell_use2 (by k_asm) (by k_asm) (by k_asm) (by k_asm) (by k_asm) (by first | exact rfl | assumption) (skewing_ _ _ _ _ _ _ _ _ (by first | exact src_int | exact src_arg (by assumption) (by repeat' (first | (with_reducible assumption) | (with_reducible exact (fun _ h => h)) | (with_reducible refine sub_cons ?_) | (with_reducible refine sub_app ?_))) | exact src_pair (by k_mem) (by k_mem)) (by first | exact src_int | exact src_arg (by assumption) (by repeat' (first | (with_reducible assumption) | (with_reducible exact (fun _ h => h)) | (with_reducible refine sub_cons ?_) | (with_reducible refine sub_app ?_))) | exact src_pair (by k_mem) (by k_mem))) (by ktr_room) (by ktr_units) ?_); intro r9 tl9 h9 tk9 F9 N9 hl9 ho9; obtain ⟨x9, er9, hin9⟩ := ho9; subst er9; (try simp only [List.nil_append, List.append_nil] at hin9); (try simp only [List.cons_append, List.nil_append] at N9); (try k_sweep); (try k_fold)) | (k_here; (with_reducible show wpAny _ _ (call (Value.ref 250) [_, _]) _ _ _); k_dflt (refine tell_use2 (by k_asm) (by k_asm) (by k_asm) (by k_asm) (by k_asm) (by first | exact rfl | assumption) (translation_ _ _ _ _ _ _ _ _ (by first | exact src_int | exact src_arg (by assumption) (by repeat' (first | (with_reducible assumption) | (with_reducible exact (fun _ h => h)) | (with_reducible refine sub_cons ?_) | (with_reducible refine sub_app ?_))) | exact src_pair (by k_mem) (by k_mem)) (by first | exact src_int | exact src_arg (by assumption) (by repeat' (first | (with_reducible assumption) | (with_reducible exact (fun _ h => h)) | (with_reducible refine sub_cons ?_) | (with_reducible refine sub_app ?_))) | exact src_pair (by k_mem) (by k_mem))) (by ktr_room) (by ktr_units) ?_); intro r9 tl9 h9 tk9 F9 N9 hl9 ho9; obtain ⟨x9, er9, hin9⟩ := ho9; subst er9; (try simp only [List.nil_append, List.append_nil] at hin9); (try simp only [List.cons_append, List.nil_append] at N9); (try k_sweep); (try k_fold)) | (k_here; (with_reducible show wpAny _ _ (call (Value.ref 91) _) _ _ _); k_dflt (refine tell_use2 (by k_asm) (by k_asm) (by k_asm) (by k_asm) (by k_asm) (by first | exact rfl | assumption) (decNeg _ _ _ _ (by first | assumption | exact DecIn.mono (by assumption) (by repeat' (first | (with_reducible assumption) | (with_reducible exact (fun _ h => h)) | (with_reducible refine sub_cons ?_) | (with_reducible refine sub_app ?_))) | exact decIn_of (by k_mem) (by k_mem))) (by ktr_room) (by ktr_units) ?_); intro r9 tl9 h9 tk9 F9 N9 hl9 ho9; obtain ⟨x9, dx9, k19, k29, tt9, tp9, er9, et9⟩ := ho9; subst er9; subst et9; (try simp only [List.cons_append, List.nil_append] at N9); (try k_sweep); (try k_fold)) | (k_here; (with_reducible show wpAny _ _ (call (Value.ref 143) [Value.int _ _, Value.int _ _]) _ _ _); k_dflt (refine tell_use2 (by k_asm) (by k_asm) (by k_asm) (by k_asm) (by k_asm) (by first | exact rfl | assumption) (newDec _ _ _ _ _ _ (by omega)) (by ktr_room) (by ktr_units) ?_); intro r9 tl9 h9 tk9 F9 N9 hl9 ho9; obtain ⟨x9, dx9, k19, k29, tt9, tp9, er9, et9⟩ := ho9; subst er9; subst et9; (try simp only [List.cons_append, List.nil_append] at N9); (try k_sweep); (try k_fold)))) | walk1 | (dsimp only; walk1) | (leave1; try dsimp only))
  all_goals (
    refine' hret _ _ _ _ _ _ _ _ _ _ _ ?f (news_ends ?fN ?fP ?fE) ?fs ?fo ?s0 ?s1 ?r0 ?fk ⟨_, _, _, _, rfl, ?i0, ?i1, ?i2⟩
    (case f => assumption)
    (case fN => assumption)
    (case fP => repeat' (first | exact Pull.head | (with_reducible refine' Pull.tail ?_) | (with_reducible refine' Pull.app ?_)))
    (case fE => repeat' (first | (with_reducible refine' Ends.cons ?_) | (with_reducible refine' Ends.app ?_) | exact Ends.nil))
    (case i0 => k_mem)
    (case i1 => (refine' MatIn.mono ?ix ?iy; (case ix => assumption); (case iy => repeat' (first | (with_reducible exact sub_hd) | (with_reducible exact List.forall_mem_nil _) | (with_reducible refine List.forall_mem_append.mpr ⟨?_, ?_⟩) | (with_reducible refine List.forall_mem_cons.mpr ⟨?_, ?_⟩) | (with_reducible exact (fun _ h => h)) | (with_reducible refine sub_cons ?_) | (with_reducible refine sub_app ?_) | k_mem))))
    (case i2 => (refine' MatIn.mono ?ix ?iy; (case ix => assumption); (case iy => repeat' (first | (with_reducible exact sub_hd) | (with_reducible exact List.forall_mem_nil _) | (with_reducible refine List.forall_mem_append.mpr ⟨?_, ?_⟩) | (with_reducible refine List.forall_mem_cons.mpr ⟨?_, ?_⟩) | (with_reducible exact (fun _ h => h)) | (with_reducible refine sub_cons ?_) | (with_reducible refine sub_app ?_) | k_mem))))
    (case fs => repeat' (first | (with_reducible exact ord_nil) | (refine ord_pair (ord_of (by assumption) (by repeat' (first | (with_reducible assumption) | (with_reducible exact (fun _ h => h)) | (with_reducible refine sub_cons ?_) | (with_reducible refine sub_app ?_)))) ?_) | (refine ord_app (ord_of (by assumption) (by repeat' (first | (with_reducible assumption) | (with_reducible exact (fun _ h => h)) | (with_reducible refine sub_cons ?_) | (with_reducible refine sub_app ?_)))) ?_) | (refine ord_tail (ord_of (by assumption) (by repeat' (first | (with_reducible assumption) | (with_reducible exact (fun _ h => h)) | (with_reducible refine sub_cons ?_) | (with_reducible refine sub_app ?_)))) ?_) | (refine ord_tail (ord_lt (by assumption) (by repeat' (first | (with_reducible assumption) | (with_reducible exact (fun _ h => h)) | (with_reducible refine sub_cons ?_) | (with_reducible refine sub_app ?_)))) ?_)))
    (case fo => repeat' (first | (with_reducible assumption) | (with_reducible exact off_nil) | (refine off_pair (off_of (by assumption) (by k_mem)) ?_) | (refine off_one (off_of (by assumption) (by k_mem)) ?_) | (refine off_app (off_of (by assumption) (by k_mem)) ?_) | (refine off_cons (off_lt2 (by assumption) (by k_mem)) ?_) | (refine off_cons (off_of_lt (by assumption) (by k_mem)) ?_)))
    (case s0 => omega)
    (case s1 => omega)
    (case r0 => omega)
    (case fk => first | exact StepOk.turn _ (by assumption) (by assumption) | exact StepOk.across _ ⟨_, by omega, by omega, rfl⟩ | exact StepOk.upward _ ⟨_, by omega, by omega, rfl⟩ | exact StepOk.trans _ _ ⟨_, by omega, by omega, rfl⟩ ⟨_, by omega, by omega, rfl⟩))
local macro_rules | `(tactic| walk_at "call ref") => `(tactic| (k_here; (with_reducible show wpAny _ _ (call (Value.ref 297) [Value.ref _, Value.int _ _]) _ _ _); k_dflt (refine' draw_use ?kB ?kF ?kX ?kN ?kP ?kT ?kK ?kc ?koff ?ks0 ?ks1 ?kr ?km1 ?km2 ?kd ?ku ?_; (case kB => k_asm); (case kF => k_asm); (case kX => k_asm); (case kN => k_asm); (case kP => repeat' (first | exact Pull.head | (with_reducible refine' Pull.tail ?_) | (with_reducible refine' Pull.app ?_))); (case kT => k_asm); (case kK => first | exact rfl | assumption); (case kc => (refine' CellsIn.mono ?cx ?cy; (case cx => assumption); (case cy => repeat' (first | (with_reducible assumption) | (with_reducible exact (fun _ h => h)) | (with_reducible refine sub_cons ?_) | (with_reducible refine sub_app ?_))))); (case koff => repeat' (first | (with_reducible assumption) | (with_reducible exact off_nil) | (refine off_pair (off_of (by assumption) (by k_mem)) ?_) | (refine off_one (off_of (by assumption) (by k_mem)) ?_) | (refine off_app (off_of (by assumption) (by k_mem)) ?_) | (refine off_cons (off_lt2 (by assumption) (by k_mem)) ?_) | (refine off_cons (off_of_lt (by assumption) (by k_mem)) ?_))); (case ks0 => omega); (case ks1 => omega); (case kr => omega); (case km1 => omega); (case km2 => omega); (case kd => ktr_room); (case ku => ktr_units); intro d9 spot9 rest9 td9 t19 t29 n9 h9 tk9 F9 N9 hd90 hd91 hs90 hs91 hr9; (try k_sweep); (try k_fold))))
theorem cellsIn_of {l : Led} {ca : Addr} {ys : List Value} {ns : List Int} {n : Nat} (h : (ca, ({ cls := .type "list", data := .seq ys.toArray n } : Obj)) ∈ l) (hi : IntsAre ys ns) (hl : ns.length ≤ 63) : CellsIn l ca := ⟨ys, ns, n, h, hi, hl⟩
theorem lawStep_use {w : World} {pa ca : Addr} {spot rest : Int} {t1 t2 : Tok} {n : Nat} {oth big : Led} {dp un : Nat} {gd : Option (List Code)} {cn : Str} {cs : Scope} {a : Addr} {ccd : Value} {cl : List (Str × Addr)} {outer : List Env} {A₀ : Around} {base h₀ : Heap} {L : Addr} {m : Str → Option Value} {s : Shared}
    {mean : ExcName → Option Value} {mg mb : Str → Option Value} {Q E : Value → Shared → Prop}
    (B : Below A₀ base outer h₀) (F : Fr h₀ L s.heap m) (X : (hd.heap_1 w.params).In h₀) (N : News h₀ L s.heap big) (P : Pull pa big (penO ca spot rest t1 t2 n) oth) (T : Top view_ (looseW view_ [Str.ofString "PaperError"]) mean mg mb h₀) (hk : cs.kind = .function)
    (hc : CellsIn oth ca) (hoff : ∀ p ∈ oth, p.1 ≠ pa) (h1 : 0 ≤ spot) (h2 : spot ≤ 900) (h3 : 0 ≤ rest) (hd : dp + 80 < recursionLimit) (hu : un + 640 < cLine)
    (ret : ∀ r spot' rest' t1' t2' n' tl h' tk' A' B', Fr h₀ L h' m → News h₀ L h' ((pa, penO ca spot' rest' t1' t2' n') :: (tl ++ oth)) → Ord oth tl → (∀ p ∈ tl, p.1 ≠ pa) → 0 ≤ spot' → spot' ≤ spot + 4 → 0 ≤ rest' → StepOk A' B' → StepIn w tl r A' B' → Q r { s with heap := h', toks := tk' }) :
    wpAny (model PySem.Challenge.rw_og0156_01.row.prog w) (ktrTop dp un gd cn cs L a ccd cl outer) (call (.ref 304) [.ref pa]) Q E s :=
  lawStep w pa ca spot rest t1 t2 n oth hc hoff h1 h2 h3 dp un gd cn cs a ccd cl outer A₀ base h₀ L m s mean mg mb Q E B F X (drop_to N P.sub) T hk hd hu ret
theorem comp_inv {prog : Program} {w : World} {A : Around} {h₀ : Heap} {L : Addr} {m : Str → Option Value} {env : Env} {elt : Expr} {x : Str} {scope : Scope} {cl : List (Str × Addr)} {s : Shared} {S : Led → Prop} {P : Nat → Value → Prop} {Fin : List Value → Led → Prop} {news : Led} {n : Nat}
    (J : Nat → List Value → Led → Prop) (h0 : J 0 [] news)
    (turn : ∀ i v I oI C oC D m₂ ys nx h tk (E' : Value → Shared → Prop), i < n → P i v → J i ys nx → LCg.NsObj oC m₂ → m₂ x = some v → Fr h₀ L h m → News h₀ L h ((I, oI) :: (C, oC) :: (D, LCg.lst ys) :: nx) → LCg.Off3 I C D nx → ((@Ne Nat I C) ∧ (@Ne Nat I D) ∧ (@Ne Nat C D)) →
      wpAny (model prog w) A (eval elt (compEnvC scope cl C env)) (LCg.CompEnd h₀ L m { s with heap := h, toks := tk } I oI C oC D (LCg.lst ys) S (fun y nx' => J (i + 1) (ys ++ [y]) nx')) E' { s with heap := h, toks := tk })
    (fin : ∀ ys nx, J n ys nx → Fin ys nx) : LCg.CompRest prog w A h₀ L m env elt x scope cl s S P Fin n 0 [] news := by
  have key : ∀ (j i : Nat) (ys : List Value) (nx : Led), i + j = n → J i ys nx → LCg.CompRest prog w A h₀ L m env elt x scope cl s S P Fin j i ys nx := by
    intro j
    induction j with
    | zero =>
      intro i ys nx hi hJ
      have e : i = n := by omega
      subst e
      exact LCg.CompRest.zero (fin ys nx hJ)
    | succ j ih =>
      intro i ys nx hi hJ
      refine LCg.CompRest.succ ?_
      intro v I oI C oC D m₂ h tk E' hv hC hx F N off ne
      refine wpAny_mono (turn i v I oI C oC D m₂ ys nx h tk E' (by omega) hv hJ hC hx F N off ne) (fun y s₂ hq => ?_) fun _ _ e => e
      obtain ⟨h', tk', nw, e, F', N', off', hS, hJ'⟩ := hq
      exact ⟨h', tk', nw, e, F', N', off', hS, ih (i + 1) _ _ (by omega) hJ'⟩
  exact key n 0 [] news (by omega) h0
/-- the steps stand in the ledger -/
inductive StepsIn (w : World) (l : Led) : List Value → List (Mat × Mat) → Prop where
  | nil : StepsIn w l [] []
  | snoc {rs : List Value} {ss : List (Mat × Mat)} {r : Value} {A B : Mat} : StepsIn w l rs ss → StepOk A B → StepIn w l r A B → StepsIn w l (rs ++ [r]) (ss ++ [(A, B)])
theorem StepsIn.mono {w : World} {l l' : Led} {rs : List Value} {ss : List (Mat × Mat)} (h : StepsIn w l rs ss) (hs : ∀ p ∈ l, p ∈ l') : StepsIn w l' rs ss := by
  induction h with
  | nil => exact .nil
  | snoc _ o i ih => exact .snoc ih o (i.mono hs)
theorem StepsIn.len {w : World} {l : Led} {rs : List Value} {ss : List (Mat × Mat)} (h : StepsIn w l rs ss) : rs.length = ss.length := by
  induction h with
  | nil => rfl
  | snoc _ _ _ ih => simp [ih]
theorem StepsIn.get {w : World} {l : Led} {rs : List Value} {ss : List (Mat × Mat)} (h : StepsIn w l rs ss) : ∀ (i : Nat) (v : Value), rs[i]? = some v → ∃ A B, ss[i]? = some (A, B) ∧ StepOk A B ∧ StepIn w l v A B := by
  induction h with
  | nil => intro i v h; simp at h
  | snoc hr o si ih =>
    intro i v hv
    have hl := hr.len
    rw [List.getElem?_append] at hv ⊢
    split at hv
    · rename_i hi
      rw [if_pos (by omega)]
      exact ih i v hv
    · rename_i hi
      rw [if_neg (by omega)]
      rw [hl] at hv
      cases hk : i - _ with
      | zero => rw [hk] at hv; cases hv; exact ⟨_, _, rfl, o, si⟩
      | succ k => rw [hk] at hv; simp at hv
theorem StepsIn.ok {w : World} {l : Led} {rs : List Value} {ss : List (Mat × Mat)} (h : StepsIn w l rs ss) : ∀ p ∈ ss, StepOk p.1 p.2 := by
  induction h with
  | nil => exact fun _ h => nomatch h
  | snoc _ o _ ih =>
    intro p hp
    rcases List.mem_append.mp hp with hp | hp
    · exact ih p hp
    · rw [List.mem_singleton.mp hp]; exact o
/-- between the turns of the building of the steps -/
def CompJ (w : World) (pa ca cc : Addr) (oc : Obj) (i : Nat) (ys : List Value) (nx : Led) : Prop :=
  ∃ spot rest t1 t2 n oth ss, nx = (pa, penO ca spot rest t1 t2 n) :: oth ∧ CellsIn oth ca ∧ (∀ p ∈ oth, p.1 ≠ pa) ∧ (cc, oc) ∈ oth ∧ 0 ≤ spot ∧ spot ≤ 4 * (i : Int) + 1 ∧ 0 ≤ rest ∧ StepsIn w oth ys ss ∧ ys.length = i
theorem comp_turn_end {w : World} {h₀ h' : Heap} {L pa ca cc I C D : Addr} {m : Str → Option Value} {s₁ : Shared} {oI oC oc pen0 : Obj} {spot spot' rest' : Int} {t1' t2' : Tok} {n' tk' i : Nat} {tl oth : Led} {ys : List Value} {ss : List (Mat × Mat)} {r : Value} {A B : Mat}
    (F : Fr h₀ L h' m) (N : News h₀ L h' ((pa, penO ca spot' rest' t1' t2' n') :: (tl ++ ((I, oI) :: (C, oC) :: (D, LCg.lst ys) :: oth)))) (o : Ord ((I, oI) :: (C, oC) :: (D, LCg.lst ys) :: oth) tl) (ho : ∀ p ∈ tl, p.1 ≠ pa)
    (off : LCg.Off3 I C D ((pa, pen0) :: oth)) (hc : CellsIn oth ca) (hoff : ∀ p ∈ oth, p.1 ≠ pa) (hcc : (cc, oc) ∈ oth) (h1 : 0 ≤ spot') (h2 : spot' ≤ spot + 4) (hsp : spot ≤ 4 * (i : Int) + 1) (h3 : 0 ≤ rest') (ok : StepOk A B) (inn : StepIn w tl r A B) (hst : StepsIn w oth ys ss) (hlen : ys.length = i) :
    LCg.CompEnd h₀ L m s₁ I oI C oC D (LCg.lst ys) (fun _ => True) (fun y nx' => CompJ w pa ca cc oc (i + 1) (ys ++ [y]) nx') r { s₁ with heap := h', toks := tk' } := by
  have sub : ∀ p ∈ oth, p ∈ tl ++ oth := sub_app (fun _ h => h)
  refine LCg.CompEnd.intro F N ((pa, penO ca spot' rest' t1' t2' n') :: (tl ++ oth)) ?_ (LCg.Off3.of ?_) trivial
    ⟨spot', rest', t1', t2', n', tl ++ oth, ss ++ [(A, B)], rfl, hc.mono sub, off_app ho hoff, sub _ hcc, h1, by omega, h3, .snoc (hst.mono sub) ok (inn.mono sub_hd), by rw [List.length_append, hlen]; rfl⟩
  · intro p hp
    simp only [List.mem_cons, List.mem_append] at hp ⊢
    rcases hp with h | h | h | h | h | h <;> simp only [h, true_or, or_true]
  · intro p hp
    rcases List.mem_cons.mp hp with rfl | hp
    · exact off.mem (pa, pen0) (.head _)
    · rcases List.mem_append.mp hp with hp | hp
      · exact ⟨Nat.ne_of_gt (o _ (.head _) p hp), Nat.ne_of_gt (o _ (.tail _ (.head _)) p hp), Nat.ne_of_gt (o _ (.tail _ (.tail _ (.head _))) p hp)⟩
      · exact off.mem _ (.tail _ hp)
theorem comp_off {pa I C D : Addr} {oI oC oD pen0 : Obj} {oth : Led} (off : LCg.Off3 I C D ((pa, pen0) :: oth)) (hoff : ∀ p ∈ oth, p.1 ≠ pa) : ∀ p ∈ (I, oI) :: (C, oC) :: (D, oD) :: oth, p.1 ≠ pa := by
  have z := off.mem _ (.head _)
  intro p hp
  simp only [List.mem_cons] at hp
  rcases hp with rfl | rfl | rfl | hp
  · exact Ne.symm z.1
  · exact Ne.symm z.2.1
  · exact Ne.symm z.2.2
  · exact hoff p hp
theorem comp_start {w : World} {pa ca x cc : Addr} {o1 oc : Obj} {cs : List Value} {spot rest : Int} {t1 t2 : Tok} {n : Nat} (hc : CellsIn [(ca, LCg.lst cs), (x, o1), (cc, oc)] ca) (hoff : ∀ p ∈ [(ca, LCg.lst cs), (x, o1), (cc, oc)], p.1 ≠ pa) (h1 : 0 ≤ spot) (h2 : spot ≤ 0 + 1) (h3 : 0 ≤ rest) :
    CompJ w pa ca cc oc 0 [] ((pa, penO ca spot rest t1 t2 n) :: [(ca, LCg.lst cs), (x, o1), (cc, oc)]) :=
  ⟨spot, rest, t1, t2, n, _, [], rfl, hc, hoff, .tail _ (.tail _ (.head _)), h1, by simpa using h2, h3, .nil, rfl⟩
theorem comp_inv2 {prog : Program} {w : World} {A : Around} {h₀ : Heap} {L pa ca cc : Addr} {oc : Obj} {m : Str → Option Value} {env : Env} {elt : Expr} {x : Str} {scope : Scope} {cl : List (Str × Addr)} {s : Shared} {S : Led → Prop} {P : Nat → Value → Prop} {Fin : List Value → Led → Prop} {news : Led} {n : Nat}
    (h0 : CompJ w pa ca cc oc 0 [] news)
    (turn : ∀ i v I oI C oC D m₂ ys nx h tk (E' : Value → Shared → Prop), i < n → P i v → CompJ w pa ca cc oc i ys nx → LCg.NsObj oC m₂ → m₂ x = some v → Fr h₀ L h m → News h₀ L h ((I, oI) :: (C, oC) :: (D, LCg.lst ys) :: nx) → LCg.Off3 I C D nx → ((@Ne Nat I C) ∧ (@Ne Nat I D) ∧ (@Ne Nat C D)) →
      wpAny (model prog w) A (eval elt (compEnvC scope cl C env)) (LCg.CompEnd h₀ L m { s with heap := h, toks := tk } I oI C oC D (LCg.lst ys) S (fun y nx' => CompJ w pa ca cc oc (i + 1) (ys ++ [y]) nx')) E' { s with heap := h, toks := tk })
    (fin : ∀ ys nx, CompJ w pa ca cc oc n ys nx → Fin ys nx) : LCg.CompRest prog w A h₀ L m env elt x scope cl s S P Fin n 0 [] news := comp_inv (CompJ w pa ca cc oc) h0 turn fin
local macro_rules | `(tactic| walk_at "call ref") => `(tactic| (k_here; (with_reducible show wpAny _ _ (call (Value.ref 304) [Value.ref _]) _ _ _); k_dflt (refine' lawStep_use ?kB ?kF ?kX ?kN ?kP ?kT ?kK ?kc ?koff ?ks0 ?ks1 ?kr ?kd ?ku ?_; (case kB => k_asm); (case kF => k_asm); (case kX => k_asm); (case kN => k_asm); (case kP => repeat' (first | exact Pull.head | (with_reducible refine' Pull.tail ?_) | (with_reducible refine' Pull.app ?_))); (case kT => k_asm); (case kK => first | exact rfl | assumption); (case kc => (refine' CellsIn.mono ?cx ?cy; (case cx => assumption); (case cy => repeat' (first | (with_reducible assumption) | (with_reducible exact (fun _ h => h)) | (with_reducible refine sub_cons ?_) | (with_reducible refine sub_app ?_))))); (case koff => repeat' (first | (with_reducible assumption) | (with_reducible exact off_nil) | (refine off_pair (off_of (by assumption) (by k_mem)) ?_) | (refine off_one (off_of (by assumption) (by k_mem)) ?_) | (refine off_app (off_of (by assumption) (by k_mem)) ?_) | (refine off_cons (off_lt2 (by assumption) (by k_mem)) ?_) | (refine off_cons (off_of_lt (by assumption) (by k_mem)) ?_))); (case ks0 => omega); (case ks1 => omega); (case kr => omega); (case kd => ktr_room); (case ku => ktr_units); intro r9 spot9 rest9 t19 t29 n9 tl9 h9 tk9 A9 B9 F9 N9 hl9 ho9 hs90 hs91 hr9 ok9 in9; (try k_sweep); (try k_fold))))
def idM : Mat := ⟨(1, 0), (0, 0), (0, 0), (1, 0), (0, 0), (0, 0)⟩
/-- the whole and the way home behind some steps -/
def goFold (ss : List (Mat × Mat)) : Mat × Mat := ss.foldl (fun WH s => (mulM WH.1 s.1, mulM s.2 WH.2)) (idM, idM)
theorem goFold_snoc (ss : List (Mat × Mat)) (A B : Mat) : goFold (ss ++ [(A, B)]) = (mulM (goFold ss).1 A, mulM B (goFold ss).2) := by
  unfold goFold; rw [List.foldl_append]; rfl
def LoopJ (w : World) (pa : Addr) (pen : Obj) (base : Led) (m₀ : Str → Option Value) (ss : List (Mat × Mat)) (i : Nat) (m' : Str → Option Value) (nx : Led) : Prop :=
  ∃ wa ho rest', m' (Str.ofString "whole") = some (.ref wa) ∧ m' (Str.ofString "home") = some (.ref ho) ∧ (∀ z, z ≠ Str.ofString "step" → z ≠ Str.ofString "whole" → z ≠ Str.ofString "home" → m' z = m₀ z) ∧
    nx = (pa, pen) :: rest' ∧ (∀ p ∈ rest', p.1 ≠ pa) ∧ (∀ p ∈ base, p ∈ rest') ∧ MatIn w rest' wa (goFold (ss.take i)).1 ∧ MatIn w rest' ho (goFold (ss.take i)).2
theorem loop_fr {h₀ h : Heap} {L wa ho : Addr} {m₀ m₁ : Str → Option Value} {v : Value} (h1 : m₁ (Str.ofString "whole") = some (.ref wa)) (h2 : m₁ (Str.ofString "home") = some (.ref ho)) (h3 : ∀ z, z ≠ Str.ofString "step" → z ≠ Str.ofString "whole" → z ≠ Str.ofString "home" → m₁ z = m₀ z)
    (F : Fr h₀ L h (fun y => if y = Str.ofString "step" then some v else m₁ y)) : Fr h₀ L h (fun y => if y = Str.ofString "step" then some v else if y = Str.ofString "home" then some (.ref ho) else if y = Str.ofString "whole" then some (.ref wa) else m₀ y) := by
  have e : (fun y => if y = Str.ofString "step" then some v else if y = Str.ofString "home" then some (.ref ho) else if y = Str.ofString "whole" then some (.ref wa) else m₀ y) = fun y => if y = Str.ofString "step" then some v else m₁ y := by
    funext y
    by_cases e1 : y = Str.ofString "step"
    · rw [if_pos e1, if_pos e1]
    · rw [if_neg e1, if_neg e1]
      by_cases e2 : y = Str.ofString "home"
      · rw [if_pos e2, e2, h2]
      · rw [if_neg e2]
        by_cases e3 : y = Str.ofString "whole"
        · rw [if_pos e3, e3, h1]
        · rw [if_neg e3, h3 y e1 e3 e2]
  rw [e]; exact F
theorem loop_turn_end {w : World} {h₀ h' : Heap} {L pa D wa' ho' : Addr} {pen : Obj} {base rest' ta tb own : Led} {m₀ m' : Str → Option Value} {ys : List Value} {nn i tk' : Nat} {ss : List (Mat × Mat)} {s₁ : Shared} {A B : Mat}
    (F : Fr h₀ L h' m') (N : News h₀ L h' (tb ++ (ta ++ (own ++ (pa, pen) :: rest')))) (oa : ∀ q ∈ own ++ (pa, pen) :: rest', ∀ p ∈ ta, q.1 < p.1) (ob : ∀ q ∈ ta ++ (own ++ (pa, pen) :: rest'), ∀ p ∈ tb, q.1 < p.1)
    (hw : m' (Str.ofString "whole") = some (.ref wa')) (hh : m' (Str.ofString "home") = some (.ref ho')) (hm : ∀ z, z ≠ Str.ofString "step" → z ≠ Str.ofString "whole" → z ≠ Str.ofString "home" → m' z = m₀ z)
    (hown : OwnOff own (((pa, pen) :: rest').map (·.1))) (hoff : ∀ p ∈ rest', p.1 ≠ pa) (hbase : ∀ p ∈ base, p ∈ rest') (M1 : MatIn w ta wa' (mulM (goFold (ss.take i)).1 A)) (M2 : MatIn w tb ho' (mulM B (goFold (ss.take i)).2))
    (hl : (D, listOf ys.toArray nn) ∈ (pa, pen) :: rest') (e : ss[i]? = some (A, B)) :
    InvEndG h₀ L (fun m' nx => (D, listOf ys.toArray nn) ∈ nx ∧ LoopJ w pa pen base m₀ ss (i + 1) m' nx) own s₁ { s₁ with heap := h', toks := tk' } := by
  have eg : goFold (ss.take (i + 1)) = (mulM (goFold (ss.take i)).1 A, mulM B (goFold (ss.take i)).2) := by
    rw [List.take_add_one, e]; exact goFold_snoc _ _ _
  refine InvEndG.intro F N (nx := (pa, pen) :: (tb ++ (ta ++ rest'))) ⟨?_, wa', ho', tb ++ (ta ++ rest'), hw, hh, hm, rfl, ?_, ?_, ?_, ?_⟩ ?_ ?_ ?_
  · rcases List.mem_cons.mp hl with h | h
    · rw [h]; exact .head _
    · exact .tail _ (List.mem_append.mpr (.inr (List.mem_append.mpr (.inr h))))
  · exact off_app (fun p hp => Nat.ne_of_gt (ob (pa, pen) (List.mem_append.mpr (.inr (List.mem_append.mpr (.inr (.head _))))) p hp)) (off_app (fun p hp => Nat.ne_of_gt (oa (pa, pen) (List.mem_append.mpr (.inr (.head _))) p hp)) hoff)
  · exact fun p hp => List.mem_append.mpr (.inr (List.mem_append.mpr (.inr (hbase p hp))))
  · rw [eg]; exact M1.mono fun p hp => List.mem_append.mpr (.inr (List.mem_append.mpr (.inl hp)))
  · rw [eg]; exact M2.mono sub_hd
  · intro p hp b hb hne
    obtain ⟨q, hq, rfl⟩ := List.mem_map.mp hb
    rcases List.mem_cons.mp hq with rfl | hq
    · exact hown p hp _ (List.mem_map.mpr ⟨_, .head _, rfl⟩) hne
    · rcases List.mem_append.mp hq with hq | hq
      · exact absurd hne (Nat.ne_of_lt (ob p (List.mem_append.mpr (.inr (List.mem_append.mpr (.inl hp)))) q hq))
      · rcases List.mem_append.mp hq with hq | hq
        · exact absurd hne (Nat.ne_of_lt (oa p (List.mem_append.mpr (.inl hp)) q hq))
        · exact hown p hp _ (List.mem_map.mpr ⟨q, .tail _ hq, rfl⟩) hne
  · intro p hp
    simp only [List.mem_cons, List.mem_append] at hp ⊢
    rcases hp with h | h | h | h <;> simp only [h, true_or, or_true]
  · intro p hp
    simp only [List.mem_cons, List.mem_append]
    simp only [hp, true_or, or_true]
theorem loop_start {w : World} {h₀ h : Heap} {L pa D wa ho : Addr} {pen : Obj} {t1 t2 oth : Led} {m₀ : Str → Option Value} {ys : List Value} {ss : List (Mat × Mat)}
    (_F : Fr h₀ L h m₀) (N : News h₀ L h (t2 ++ (t1 ++ (D, LCg.lst ys) :: (pa, pen) :: oth))) (o1 : ∀ q ∈ (D, LCg.lst ys) :: (pa, pen) :: oth, ∀ p ∈ t1, q.1 < p.1) (o2 : ∀ q ∈ t1 ++ (D, LCg.lst ys) :: (pa, pen) :: oth, ∀ p ∈ t2, q.1 < p.1)
    (hoff : ∀ p ∈ oth, p.1 ≠ pa) (hD : LCg.Off1 D ((pa, pen) :: oth)) (M1 : MatIn w t1 wa idM) (M2 : MatIn w t2 ho idM) (hw : m₀ (Str.ofString "whole") = some (.ref wa)) (hh : m₀ (Str.ofString "home") = some (.ref ho)) :
    News h₀ L h ((pa, pen) :: (t2 ++ (t1 ++ (D, LCg.lst ys) :: oth))) ∧ LoopJ w pa pen ((D, LCg.lst ys) :: oth) m₀ ss 0 m₀ ((pa, pen) :: (t2 ++ (t1 ++ (D, LCg.lst ys) :: oth))) := by
  refine ⟨fun p hp => N p ?_, wa, ho, _, hw, hh, fun _ _ _ _ => rfl, rfl, ?_, ?_, ?_, ?_⟩
  · simp only [List.mem_cons, List.mem_append] at hp ⊢
    rcases hp with h | h | h | h | h <;> simp only [h, true_or, or_true]
  · refine off_app (fun p hp => Nat.ne_of_gt (o2 (pa, pen) (List.mem_append.mpr (.inr (.tail _ (.head _)))) p hp)) (off_app (fun p hp => Nat.ne_of_gt (o1 (pa, pen) (.tail _ (.head _)) p hp)) (off_cons (Ne.symm hD.1) hoff))
  · exact fun p hp => List.mem_append.mpr (.inr (List.mem_append.mpr (.inr hp)))
  · exact M1.mono fun p hp => List.mem_append.mpr (.inr (List.mem_append.mpr (.inl hp)))
  · exact M2.mono sub_hd
theorem loop_iter {prog : Program} {w : World} {A : Around} {E : Value → Shared → Prop} {s : Shared} {env : Env} {h₀ : Heap} {body : List Stmt} {Q : Flow → Shared → Prop} {pa D : Addr} {pen : Obj} {base news : Led} {m₀ : Str → Option Value} {ys : List Value} {nn : Nat} {ss : List (Mat × Mat)}
    (hJ : LoopJ w pa pen base m₀ ss 0 m₀ news) (hst : StepsIn w base ys ss) (hok : ∀ i, MOk (goFold (ss.take i)).1 ∧ MOk (goFold (ss.take i)).2) (hso : ∀ p ∈ ss, MOk p.1 ∧ MOk p.2)
    (hh : A.handled = none) (hl : (D, listOf ys.toArray nn) ∈ news) (F : Fr h₀ env.locals s.heap m₀) (N : News h₀ env.locals s.heap news)
    (turn : ∀ (i : Nat) (SA SB : Mat) (D0 x y wa ho : Addr) (c : Nat) (rest' own : Led) (h : Heap) (tk : Nat), ss[i]? = some (SA, SB) → MOk SA → MOk SB → MOk (goFold (ss.take i)).1 → MOk (goFold (ss.take i)).2 → (D0, ({ cls := .type "tuple", data := .seq #[.ref x, .ref y] c } : Obj)) ∈ rest' → MatIn w rest' x SA → MatIn w rest' y SB →
      MatIn w rest' wa (goFold (ss.take i)).1 → MatIn w rest' ho (goFold (ss.take i)).2 → (∀ p ∈ rest', p.1 ≠ pa) → (∀ p ∈ base, p ∈ rest') → OwnOff own (((pa, pen) :: rest').map (·.1)) → (D, listOf ys.toArray nn) ∈ (pa, pen) :: rest' →
      Fr h₀ env.locals h (fun y => if y = Str.ofString "step" then some (.ref D0) else if y = Str.ofString "home" then some (.ref ho) else if y = Str.ofString "whole" then some (.ref wa) else m₀ y) → News h₀ env.locals h (own ++ (pa, pen) :: rest') →
      wpAny (model prog w) A (execs body env) (InvPostG h₀ env.locals (fun m' nx => (D, listOf ys.toArray nn) ∈ nx ∧ LoopJ w pa pen base m₀ ss (i + 1) m' nx) own { s with heap := h, toks := tk } Q) E { s with heap := h, toks := tk })
    (done : ∀ (wa ho : Addr) (rest' : Led) (u : Str → Option Value) (h : Heap) (tk : Nat), MOk (goFold ss).1 → MOk (goFold ss).2 → MatIn w rest' wa (goFold ss).1 → MatIn w rest' ho (goFold ss).2 → (∀ p ∈ rest', p.1 ≠ pa) → (∀ p ∈ base, p ∈ rest') →
      Fr h₀ env.locals h (fun y => if y = Str.ofString "step" then u y else if y = Str.ofString "home" then some (.ref ho) else if y = Str.ofString "whole" then some (.ref wa) else m₀ y) → News h₀ env.locals h ((pa, pen) :: rest') → Q .next { s with heap := h, toks := tk }) :
    wpAny (model prog w) A (pyIter (.ref D)) (fun it s₂ => LoopAtV prog w A h₀ env (Str.ofString "step") body Q E it s₂) E s := by
  refine kdl_iter (LoopJ w pa pen base m₀ ss) hh hl F N hJ ?_ ?_
  · rintro i v m₁ nx h tk own hv hoffown hln ⟨wa, ho, rest', h1, h2, h3, rfl, hoff, hb, M1, M2⟩ F₁ N₁
    obtain ⟨SA, SB, e, ok, D0, x, y, c, rfl, hm, Ma, Mb⟩ := hst.get i v hv
    have hk := hso (SA, SB) (List.mem_of_getElem? e)
    have N₂ : News h₀ env.locals h (own ++ (pa, pen) :: rest') := fun p hp => N₁ p ((List.mem_append.mp hp).elim (fun h => List.mem_append.mpr (.inr h)) fun h => List.mem_append.mpr (.inl h))
    exact turn i SA SB D0 x y wa ho c rest' own h tk e hk.1 hk.2 (hok i).1 (hok i).2 (hb _ hm) (Ma.mono hb) (Mb.mono hb) M1 M2 hoff hb hoffown hln (loop_fr h1 h2 h3 F₁) N₂
  · rintro m₁ nx h tk ⟨wa, ho, rest', h1, h2, h3, rfl, hoff, hb, M1, M2⟩ F₁ N₁
    rw [hst.len, List.take_length] at M1 M2
    have hk := hok ss.length
    rw [List.take_length] at hk
    refine done wa ho rest' m₁ h tk hk.1 hk.2 M1 M2 hoff hb ?_ N₁
    have e : (fun y => if y = Str.ofString "step" then m₁ y else if y = Str.ofString "home" then some (.ref ho) else if y = Str.ofString "whole" then some (.ref wa) else m₀ y) = m₁ := by
      funext y
      by_cases e1 : y = Str.ofString "step"
      · rw [if_pos e1]
      · rw [if_neg e1]
        by_cases e2 : y = Str.ofString "home"
        · rw [if_pos e2, e2, h2]
        · rw [if_neg e2]
          by_cases e3 : y = Str.ofString "whole"
          · rw [if_pos e3, e3, h1]
          · rw [if_neg e3, h3 y e1 e3 e2]
    rw [e]; exact F₁
def val (d : Int × Nat) : Rat := (d.1 : Rat) / 10 ^ d.2
theorem ten_ne0 (n : Nat) : (10 : Rat) ^ n ≠ 0 := by
  induction n with
  | zero => simp
  | succ n ih => grind
theorem val_nrm : ∀ (p : Nat) (t : Int), val (nrm t p) = (t : Rat) / 10 ^ p
  | 0, t => rfl
  | p + 1, t => by
    unfold nrm
    split
    · rename_i h
      rw [val_nrm p (t / 10)]
      have e : t = 10 * (t / 10) := by omega
      have e2 : (t : Rat) = 10 * ((t / 10 : Int) : Rat) := by rw [← Rat.intCast_ofNat, ← Rat.intCast_mul, ← e]
      have h1 := ten_ne0 p
      rw [e2]
      grind
    · rfl
def Canon (d : Int × Nat) : Prop := d.2 = 0 ∨ d.1 % 10 ≠ 0
theorem canon_nrm : ∀ (p : Nat) (t : Int), Canon (nrm t p)
  | 0, t => .inl rfl
  | p + 1, t => by
    unfold nrm
    split
    · exact canon_nrm p _
    · rename_i h; exact .inr h
theorem canon_le {a b : Int × Nat} (hb : Canon b) (h : a.1 * 10 ^ b.2 = b.1 * 10 ^ a.2) : b.2 ≤ a.2 := by
  rcases hb with hb | hb
  · omega
  · refine Nat.le_of_not_lt fun hlt => hb ?_
    obtain ⟨k, hk⟩ : ∃ k, b.2 = a.2 + (k + 1) := ⟨b.2 - a.2 - 1, by omega⟩
    rw [hk, Int.pow_add, Int.pow_succ] at h
    have hz : (10 : Int) ^ a.2 ≠ 0 := Int.pow_ne_zero (by decide)
    have h2 : (a.1 * 10 ^ k * 10) * 10 ^ a.2 = b.1 * 10 ^ a.2 := by rw [← h]; grind
    have h3 := Int.eq_of_mul_eq_mul_right hz h2
    omega
theorem canon_inj {a b : Int × Nat} (ha : Canon a) (hb : Canon b) (h : val a = val b) : a = b := by
  unfold val at h
  have h1 := ten_ne0 a.2
  have h2 := ten_ne0 b.2
  have e : (a.1 : Rat) * 10 ^ b.2 = (b.1 : Rat) * 10 ^ a.2 := by grind
  have e' : a.1 * 10 ^ b.2 = b.1 * 10 ^ a.2 := by exact_mod_cast e
  have l1 := canon_le hb e'
  have l2 := canon_le ha e'.symm
  have l : a.2 = b.2 := Nat.le_antisymm l2 l1
  rw [l] at e'
  have hz : (10 : Int) ^ b.2 ≠ 0 := Int.pow_ne_zero (by decide)
  have := Int.eq_of_mul_eq_mul_right hz e'
  exact Prod.ext this l
theorem val_dmul (a b : Int × Nat) : val (dmul a b) = val a * val b := by
  unfold dmul
  rw [val_nrm]
  unfold val
  have h1 := ten_ne0 a.2
  have h2 := ten_ne0 b.2
  rw [Rat.intCast_mul]
  grind
theorem val_dneg (a : Int × Nat) : val (dneg a) = - val a := by
  unfold dneg
  rw [val_nrm]
  unfold val
  rw [Rat.intCast_neg]
  grind
theorem val_up (a : Int × Nat) {m : Nat} (h : a.2 ≤ m) : ((up a m : Int) : Rat) = val a * 10 ^ m := by
  unfold up val
  obtain ⟨k, rfl⟩ : ∃ k, m = a.2 + k := ⟨m - a.2, by omega⟩
  have e : a.2 + k - a.2 = k := by omega
  have h1 := ten_ne0 a.2
  rw [e, Rat.intCast_mul, Rat.intCast_pow]
  have e2 : ((10 : Int) : Rat) = 10 := rfl
  rw [e2]
  grind
theorem val_dadd (a b : Int × Nat) : val (dadd a b) = val a + val b := by
  unfold dadd
  rw [val_nrm, Rat.intCast_add, val_up a (Nat.le_max_left ..), val_up b (Nat.le_max_right ..)]
  have h1 := ten_ne0 (max a.2 b.2)
  grind
theorem val_dsub (a b : Int × Nat) : val (dsub a b) = val a - val b := by
  unfold dsub
  rw [val_nrm, Rat.intCast_sub, val_up a (Nat.le_max_left ..), val_up b (Nat.le_max_right ..)]
  have h1 := ten_ne0 (max a.2 b.2)
  grind
structure MV where
  a : Rat
  b : Rat
  c : Rat
  d : Rat
  e : Rat
  f : Rat
def MV.mul (A B : MV) : MV := ⟨A.a * B.a + A.b * B.c, A.a * B.b + A.b * B.d, A.c * B.a + A.d * B.c, A.c * B.b + A.d * B.d, B.a * A.e + B.c * A.f + B.e, B.b * A.e + B.d * A.f + B.f⟩
def MV.one : MV := ⟨1, 0, 0, 1, 0, 0⟩
def MV.det (A : MV) : Rat := A.a * A.d - A.b * A.c
theorem MV.assoc (A B C : MV) : (A.mul B).mul C = A.mul (B.mul C) := by
  unfold MV.mul
  simp only [MV.mk.injEq]
  refine ⟨?_, ?_, ?_, ?_, ?_, ?_⟩ <;> grind
theorem MV.mul_one (A : MV) : A.mul MV.one = A := by
  cases A
  unfold MV.mul MV.one
  simp only [MV.mk.injEq]
  refine ⟨?_, ?_, ?_, ?_, ?_, ?_⟩ <;> grind
theorem MV.det_mul (A B : MV) : (A.mul B).det = A.det * B.det := by
  unfold MV.mul MV.det
  grind
def mv (M : Mat) : MV := ⟨val M.a, val M.b, val M.c, val M.d, val M.e, val M.f⟩
theorem mv_mul (A B : Mat) : mv (mulM A B) = (mv A).mul (mv B) := by
  simp only [mv, mulM, MV.mul, appR, appU, val_dadd, val_dmul]
theorem val_det (M : Mat) : val (detM M) = (mv M).det := by
  simp only [detM, mv, MV.det, val_dsub, val_dmul]
theorem val_int (t : Int) : val (t, 0) = (t : Rat) := by
  unfold val; simp only [Rat.pow_zero]; grind
theorem inv_go : ∀ (ss : List (Mat × Mat)) (WH : Mat × Mat), (∀ p ∈ ss, (mv p.1).mul (mv p.2) = MV.one ∧ (mv p.1).det = 1) → (mv WH.1).mul (mv WH.2) = MV.one → (mv WH.1).det = 1 →
    (mv (ss.foldl (fun WH s => (mulM WH.1 s.1, mulM s.2 WH.2)) WH).1).mul (mv (ss.foldl (fun WH s => (mulM WH.1 s.1, mulM s.2 WH.2)) WH).2) = MV.one ∧ (mv (ss.foldl (fun WH s => (mulM WH.1 s.1, mulM s.2 WH.2)) WH).1).det = 1
  | [], _, _, h, k => ⟨h, k⟩
  | p :: r, WH, hs, h, k => by
    rw [List.foldl_cons]
    have hp := hs p (.head _)
    refine inv_go r _ (fun q hq => hs q (.tail _ hq)) ?_ ?_
    · show (mv (mulM WH.1 p.1)).mul (mv (mulM p.2 WH.2)) = MV.one
      rw [mv_mul, mv_mul, MV.assoc, ← MV.assoc (mv p.1), hp.1]
      rw [show MV.one.mul (mv WH.2) = mv WH.2 from by
        cases mv WH.2
        unfold MV.mul MV.one
        simp only [MV.mk.injEq]
        refine ⟨?_, ?_, ?_, ?_, ?_, ?_⟩ <;> grind]
      exact h
    · show (mv (mulM WH.1 p.1)).det = 1
      rw [mv_mul, MV.det_mul, hp.2, k]; grind
theorem mv_turn (k : Int) {c s : Int} (h1 : qcos (k.fmod 4) = c) (h2 : qsin (k.fmod 4) = s) : mv (turnM k) = ⟨(c : Rat), (s : Rat), ((-s : Int) : Rat), (c : Rat), ((0 : Int) : Rat), ((0 : Int) : Rat)⟩ := by
  unfold turnM mv
  simp only [val_int, h1, h2]
theorem step_inv {A B : Mat} (h : StepOk A B) : (mv A).mul (mv B) = MV.one ∧ (mv A).det = 1 := by
  cases h with
  | turn k h0 h1 =>
    have : k = 0 ∨ k = 1 ∨ k = 2 ∨ k = 3 := by omega
    rcases this with rfl | rfl | rfl | rfl
    · rw [mv_turn 0 (c := 1) (s := 0) (by decide) (by decide), mv_turn (-0) (c := 1) (s := 0) (by decide) (by decide)]; constructor; (simp only [MV.mul, MV.one, MV.mk.injEq]; decide +kernel); (simp only [MV.det]; decide +kernel)
    · rw [mv_turn 1 (c := 0) (s := 1) (by decide) (by decide), mv_turn (-1) (c := 0) (s := -1) (by decide) (by decide)]; constructor; (simp only [MV.mul, MV.one, MV.mk.injEq]; decide +kernel); (simp only [MV.det]; decide +kernel)
    · rw [mv_turn 2 (c := -1) (s := 0) (by decide) (by decide), mv_turn (-2) (c := -1) (s := 0) (by decide) (by decide)]; constructor; (simp only [MV.mul, MV.one, MV.mk.injEq]; decide +kernel); (simp only [MV.det]; decide +kernel)
    · rw [mv_turn 3 (c := 0) (s := -1) (by decide) (by decide), mv_turn (-3) (c := 0) (s := 1) (by decide) (by decide)]; constructor; (simp only [MV.mul, MV.one, MV.mk.injEq]; decide +kernel); (simp only [MV.det]; decide +kernel)
  | across d hd =>
    simp only [mv, skewM, MV.mul, MV.one, MV.det, MV.mk.injEq, val_dneg, val_int]
    grind
  | upward d hd =>
    simp only [mv, skewM, MV.mul, MV.one, MV.det, MV.mk.injEq, val_dneg, val_int]
    grind
  | trans d e hd he =>
    simp only [mv, transM, MV.mul, MV.one, MV.det, MV.mk.injEq, val_dneg, val_int]
    grind
theorem mv_id : mv idM = MV.one := by
  unfold idM mv MV.one
  simp only [val_int]
  rfl
theorem fold_inv {ss : List (Mat × Mat)} (h : ∀ p ∈ ss, StepOk p.1 p.2) : (mv (goFold ss).1).mul (mv (goFold ss).2) = MV.one ∧ (mv (goFold ss).1).det = 1 := by
  refine inv_go ss (idM, idM) (fun p hp => step_inv (h p hp)) ?_ ?_
  · show (mv idM).mul (mv idM) = MV.one
    rw [mv_id, MV.mul_one]
  · show (mv idM).det = 1
    rw [mv_id]; simp only [MV.det, MV.one]; decide +kernel
theorem det_one {ss : List (Mat × Mat)} (h : ∀ p ∈ ss, StepOk p.1 p.2) : detM (goFold ss).1 = (1, 0) := by
  refine canon_inj (canon_nrm _ _) (.inl rfl) ?_
  rw [val_det, (fold_inv h).2, val_int]; rfl
theorem val_appR (M : Mat) (x y : Int × Nat) : val (appR M x y) = (mv M).a * val x + (mv M).c * val y + (mv M).e := by simp only [appR, mv, val_dadd, val_dmul]
theorem val_appU (M : Mat) (x y : Int × Nat) : val (appU M x y) = (mv M).b * val x + (mv M).d * val y + (mv M).f := by simp only [appU, mv, val_dadd, val_dmul]
theorem back_home {ss : List (Mat × Mat)} (h : ∀ p ∈ ss, StepOk p.1 p.2) {x y : Int × Nat} (hx : Canon x) (hy : Canon y) :
    appR (goFold ss).2 (appR (goFold ss).1 x y) (appU (goFold ss).1 x y) = x ∧ appU (goFold ss).2 (appR (goFold ss).1 x y) (appU (goFold ss).1 x y) = y := by
  have e := (fold_inv h).1
  simp only [MV.mul, MV.one, MV.mk.injEq] at e
  obtain ⟨e1, e2, e3, e4, e5, e6⟩ := e
  constructor
  · refine canon_inj (canon_nrm _ _) hx ?_
    rw [val_appR, val_appR, val_appU]
    grind
  · refine canon_inj (canon_nrm _ _) hy ?_
    rw [val_appU, val_appR, val_appU]
    grind
theorem back_adj {ss : List (Mat × Mat)} (h : ∀ p ∈ ss, StepOk p.1 p.2) {x y : Int × Nat} (hx : Canon x) (hy : Canon y) :
    adjR (goFold ss).1 (appR (goFold ss).1 x y) (appU (goFold ss).1 x y) = x ∧ adjU (goFold ss).1 (appR (goFold ss).1 x y) (appU (goFold ss).1 x y) = y := by
  have e := (fold_inv h).2
  simp only [MV.det] at e
  constructor
  · refine canon_inj (canon_nrm _ _) hx ?_
    simp only [adjR, val_dsub, val_dmul]
    rw [val_appR, val_appU]
    simp only [mv] at *
    grind
  · refine canon_inj (canon_nrm _ _) hy ?_
    simp only [adjU, val_dsub, val_dmul]
    rw [val_appR, val_appU]
    simp only [mv] at *
    grind
theorem rq_pos {t b : Int} (hb : 0 < b) : rq t b = (2 * ab t + b).fdiv (2 * b) * sgn t := by
  have h1 : ab b = b := if_neg (by omega)
  have h2 : sgn b = 1 := by unfold sgn; rw [if_neg (by omega), if_pos hb]
  unfold rq; rw [h1, h2]; omega
theorem ab_mul {t c : Int} (hc : 0 < c) : ab (t * c) = ab t * c := by
  unfold ab
  by_cases h : t < 0
  · rw [if_pos h, if_pos (Int.mul_neg_of_neg_of_pos h hc), Int.neg_mul]
  · rw [if_neg h, if_neg (by have := Int.mul_nonneg (by omega : 0 ≤ t) (by omega : 0 ≤ c); omega)]
theorem sgn_mul {t c : Int} (hc : 0 < c) : sgn (t * c) = sgn t := by
  unfold sgn
  by_cases h : t = 0
  · rw [h, Int.zero_mul]
  · rw [if_neg h, if_neg (Int.mul_ne_zero h (by omega))]
    by_cases h2 : 0 < t
    · rw [if_pos h2, if_pos (Int.mul_pos h2 hc)]
    · rw [if_neg h2, if_neg (by have := Int.mul_neg_of_neg_of_pos (by omega : t < 0) hc; omega)]
theorem rq_scale {t b c : Int} (hb : 0 < b) (hc : 0 < c) : rq (t * c) (b * c) = rq t b := by
  rw [rq_pos (Int.mul_pos hb hc), rq_pos hb, ab_mul hc, sgn_mul hc]
  have e : 2 * (ab t * c) + b * c = (2 * ab t + b) * c := by grind
  have e2 : 2 * (b * c) = 2 * b * c := by grind
  rw [e, e2, Int.fdiv_eq_ediv_of_nonneg _ (Int.le_of_lt (Int.mul_pos (by omega) hc)), Int.fdiv_eq_ediv_of_nonneg _ (by omega), Int.mul_ediv_mul_of_pos_left _ _ hc]
theorem rq_one (t : Int) : rq t 1 = t := by
  rw [rq_pos (by decide), Int.fdiv_eq_ediv_of_nonneg _ (by decide)]
  unfold ab sgn
  (repeat' split) <;> omega
theorem ten_pos (n : Nat) : (0 : Int) < 10 ^ n := Int.pow_pos (by decide)
theorem over_one {x : Int × Nat} (hx : Canon x) (k : Nat) : dover x (1, 0) k = dround x k := by
  have e : dover x (1, 0) k = nrm (rq (x.1 * 10 ^ k) (10 ^ x.2)) k := by
    unfold dover up
    simp only [Nat.max_zero, Nat.sub_self, Nat.sub_zero, Int.pow_zero, Int.mul_one, Int.one_mul]
  rw [e]
  unfold dround
  split
  · rename_i h
    obtain ⟨j, rfl⟩ : ∃ j, k = x.2 + j := ⟨k - x.2, by omega⟩
    have e2 : x.1 * 10 ^ (x.2 + j) = (x.1 * 10 ^ j) * 10 ^ x.2 := by rw [Int.pow_add]; grind
    have e3 : rq ((x.1 * 10 ^ j) * 10 ^ x.2) (10 ^ x.2) = x.1 * 10 ^ j := by
      have := rq_scale (t := x.1 * 10 ^ j) (b := 1) (by decide) (ten_pos x.2)
      rw [Int.one_mul] at this
      rw [this, rq_one]
    rw [e2, e3]
    refine canon_inj (canon_nrm _ _) hx ?_
    rw [val_nrm]
    unfold val
    have h1 := ten_ne0 x.2
    have h2 := ten_ne0 j
    rw [Rat.intCast_mul, Rat.intCast_pow]
    have e4 : ((10 : Int) : Rat) = 10 := rfl
    rw [e4]
    grind
  · rename_i h
    obtain ⟨j, hj⟩ : ∃ j, x.2 = j + k := ⟨x.2 - k, by omega⟩
    have e2 : x.2 - k = j := by omega
    rw [e2, hj, Int.pow_add, rq_scale (ten_pos j) (ten_pos k)]
theorem over_many {x : Int × Nat} (hx : Canon x) {k : Nat} (h : x.2 ≤ k) : dover x (1, 0) k = x := by
  rw [over_one hx]; exact if_pos h
structure OkM (B P : Nat) (M : Mat) : Prop where
  a : OkB B P M.a
  b : OkB B P M.b
  c : OkB B P M.c
  d : OkB B P M.d
  e : OkB B P M.e
  f : OkB B P M.f
theorem OkM.up {B P B' P' : Nat} {M : Mat} (h : OkM B P M) (hB : B ≤ B') (hP : P ≤ P') : OkM B' P' M := ⟨h.a.up hB hP, h.b.up hB hP, h.c.up hB hP, h.d.up hB hP, h.e.up hB hP, h.f.up hB hP⟩
theorem OkM.mok {B P : Nat} {M : Mat} (h : OkM B P M) (hB : B ≤ 500) (hP : P ≤ 50) : MOk M := ⟨h.a.up hB hP, h.b.up hB hP, h.c.up hB hP, h.d.up hB hP, h.e.up hB hP, h.f.up hB hP⟩
theorem okb_two {B P B' P' : Nat} {a b c d : Int × Nat} (ha : OkB B P a) (hb : OkB B' P' b) (hc : OkB B P c) (hd : OkB B' P' d) : OkB (B + B' + 4 * (P + P') + 2) (P + P') (dadd (dmul a b) (dmul c d)) :=
  (OkB.add (OkB.mul ha hb) (OkB.mul hc hd)).up (by omega) (by omega)
theorem okb_app {B P B' P' : Nat} {M : Mat} {x y : Int × Nat} (hM : OkM B P M) (hx : OkB B' P' x) (hy : OkB B' P' y) : OkB (B + B' + 8 * (P + P') + 4) (P + P') (appR M x y) ∧ OkB (B + B' + 8 * (P + P') + 4) (P + P') (appU M x y) :=
  ⟨(OkB.add (okb_two hM.a hx hM.c hy) hM.e).up (by omega) (by omega), (OkB.add (okb_two hM.b hx hM.d hy) hM.f).up (by omega) (by omega)⟩
theorem okm_mul {B P B' P' : Nat} {A C : Mat} (hA : OkM B P A) (hC : OkM B' P' C) : OkM (B + B' + 8 * (P + P') + 4) (P + P') (mulM A C) where
  a := (okb_two hA.a hC.a hA.b hC.c).up (by omega) (by omega)
  b := (okb_two hA.a hC.b hA.b hC.d).up (by omega) (by omega)
  c := (okb_two hA.c hC.a hA.d hC.c).up (by omega) (by omega)
  d := (okb_two hA.c hC.b hA.d hC.d).up (by omega) (by omega)
  e := ((okb_app hC hA.e hA.f).1).up (by omega) (by omega)
  f := ((okb_app hC hA.e hA.f).2).up (by omega) (by omega)
theorem okb_int {t : Int} (h : t.natAbs < 512) : OkB 9 1 (t, 0) := ⟨(intBits_le_iff (m := 9)).mpr (by simpa using h), Nat.zero_le 1⟩
theorem okb_dig {d : Int × Nat} (h : Dig d) : OkB 9 1 d := by
  obtain ⟨t, h1, h2, rfl⟩ := h
  exact nrm_bits _ _ ((intBits_le_iff (m := 9)).mpr (by show t.natAbs < 512; omega)) (by decide)
theorem step_ok {A B : Mat} (h : StepOk A B) : OkM 9 1 A ∧ OkM 9 1 B := by
  have z := okb_int (t := 0) (by decide)
  have o := okb_int (t := 1) (by decide)
  cases h with
  | turn k h0 h1 =>
    have : k = 0 ∨ k = 1 ∨ k = 2 ∨ k = 3 := by omega
    rcases this with rfl | rfl | rfl | rfl <;> exact ⟨⟨okb_int (by decide), okb_int (by decide), okb_int (by decide), okb_int (by decide), z, z⟩, ⟨okb_int (by decide), okb_int (by decide), okb_int (by decide), okb_int (by decide), z, z⟩⟩
  | across d hd => exact ⟨⟨o, z, okb_dig hd, o, z, z⟩, ⟨o, z, (okb_dig hd).neg, o, z, z⟩⟩
  | upward d hd => exact ⟨⟨o, okb_dig hd, z, o, z, z⟩, ⟨o, (okb_dig hd).neg, z, o, z, z⟩⟩
  | trans d e hd he => exact ⟨⟨o, z, z, o, okb_dig hd, okb_dig he⟩, ⟨o, z, z, o, (okb_dig hd).neg, (okb_dig he).neg⟩⟩
theorem fold_okm : ∀ (ss : List (Mat × Mat)) (WH : Mat × Mat) (B P : Nat), (∀ p ∈ ss, StepOk p.1 p.2) → OkM B P WH.1 → OkM B P WH.2 → P + ss.length ≤ 6 →
    OkM (B + 69 * ss.length) (P + ss.length) (ss.foldl (fun WH s => (mulM WH.1 s.1, mulM s.2 WH.2)) WH).1 ∧ OkM (B + 69 * ss.length) (P + ss.length) (ss.foldl (fun WH s => (mulM WH.1 s.1, mulM s.2 WH.2)) WH).2
  | [], _, _, _, _, h1, h2, _ => ⟨h1.up (by simp) (by simp), h2.up (by simp) (by simp)⟩
  | p :: r, WH, B, P, hs, h1, h2, hl => by
    rw [List.foldl_cons]
    rw [List.length_cons] at hl ⊢
    obtain ⟨k1, k2⟩ := step_ok (hs p (.head _))
    have := fold_okm r (mulM WH.1 p.1, mulM p.2 WH.2) (B + 69) (P + 1) (fun q hq => hs q (.tail _ hq)) ((okm_mul h1 k1).up (by omega) (by omega)) ((okm_mul k2 h2).up (by omega) (by omega)) (by omega)
    exact ⟨this.1.up (by omega) (by omega), this.2.up (by omega) (by omega)⟩
theorem fold_ok {ss : List (Mat × Mat)} (h : ∀ p ∈ ss, StepOk p.1 p.2) (hl : ss.length ≤ 6) : OkM 415 6 (goFold ss).1 ∧ OkM 415 6 (goFold ss).2 := by
  have z := okb_int (t := 0) (by decide)
  have idok : OkM 1 0 idM := by
    have z1 : OkB 1 0 ((0 : Int), 0) := ⟨by decide, by decide⟩
    have o1 : OkB 1 0 ((1 : Int), 0) := ⟨by decide, by decide⟩
    exact ⟨o1, z1, z1, o1, z1, z1⟩
  have := fold_okm ss (idM, idM) 1 0 h idok idok (by omega)
  exact ⟨this.1.up (by omega) (by omega), this.2.up (by omega) (by omega)⟩
theorem fold_mok {ss : List (Mat × Mat)} (h : ∀ p ∈ ss, StepOk p.1 p.2) (hl : ss.length ≤ 6) : ∀ i, MOk (goFold (ss.take i)).1 ∧ MOk (goFold (ss.take i)).2 := fun i => by
  have := fold_ok (ss := ss.take i) (fun p hp => h p (List.mem_of_mem_take hp)) (by rw [List.length_take]; omega)
  exact ⟨this.1.mok (by decide) (by decide), this.2.mok (by decide) (by decide)⟩
theorem steps_mok {ss : List (Mat × Mat)} (h : ∀ p ∈ ss, StepOk p.1 p.2) : ∀ p ∈ ss, MOk p.1 ∧ MOk p.2 := fun p hp => by
  have := step_ok (h p hp)
  exact ⟨this.1.mok (by decide) (by decide), this.2.mok (by decide) (by decide)⟩
theorem okb_pt {t : Int} (h1 : -4500 ≤ t) (h2 : t ≤ 4500) : OkB 13 2 (nrm t 2) := nrm_bits _ _ ((intBits_le_iff (m := 13)).mpr (by show t.natAbs < 8192; omega)) (by decide)
theorem far_ok {ss : List (Mat × Mat)} (h : ∀ p ∈ ss, StepOk p.1 p.2) (hl : ss.length ≤ 6) {x y : Int × Nat} (hx : OkB 13 2 x) (hy : OkB 13 2 y) :
    OkB 500 50 (appR (goFold ss).1 x y) ∧ OkB 500 50 (appU (goFold ss).1 x y) := by
  have := okb_app (fold_ok h hl).1 hx hy
  exact ⟨this.1.up (by omega) (by omega), this.2.up (by omega) (by omega)⟩
theorem determ1 (w : World) (x : Addr) (A : Mat) (news : Led) (h1 : MatIn w news x A) (h2 : MOk A) (hd : detM A = (1, 0)) : Tell w 12 271 [.ref x] news (DecNew w (1, 0)) := by
  have := determ w x A news h1 h2
  rw [hd] at this
  exact this
theorem applied1 (w : World) (z x y : Addr) (M : Mat) (a b X Y : Int × Nat) (news : Led) (hz : MatIn w news z M) (hx : DecIn w news x a) (hy : DecIn w news y b) (hM : MOk M) (oa : OkB 500 50 a) (ob : OkB 500 50 b) (eX : appR M a b = X) (eY : appU M a b = Y) :
    Tell w 12 210 [.ref z, .ref x, .ref y] news (PairNew w X Y) := by
  have := applied_ w z x y M a b news hz hx hy hM oa ob
  rw [eX, eY] at this
  exact this
theorem inverse1 (w : World) (z x y : Addr) (M : Mat) (a b X Y : Int × Nat) (k : Int) (tk : Tok) (news : Led) (hz : MatIn w news z M) (hx : DecIn w news x a) (hy : DecIn w news y b) (hM : MOk M) (oa : OkB 500 50 a) (ob : OkB 500 50 b)
    (hd : detM M = (1, 0)) (h0 : 0 ≤ k) (h1 : k ≤ 20) (eX : adjR M a b = X) (eY : adjU M a b = Y) (cX : Canon X) (cY : Canon Y) : Tell w 20 285 [.ref z, .ref x, .ref y, .int k tk] news (PairNew w (dround X k.toNat) (dround Y k.toNat)) := by
  have := inverse_ w z x y M a b k tk news hz hx hy hM oa ob hd h0 h1
  rw [eX, eY, hd, over_one cX, over_one cY] at this
  exact this
abbrev tupR (a b : Addr) (c : Nat) : Obj := { cls := .type "tuple", data := .seq #[.ref a, .ref b] c }
abbrev tupI (d : Int × Nat) (t1 t2 : Tok) (c : Nat) : Obj := { cls := .type "tuple", data := .seq #[.int d.1 t1, .int d.2 t2] c }
/-- the source of a comprehension is a pair of the ledger -/
def SrcT (prog : Program) (w : World) (A : Around) (h₀ : Heap) (L : Addr) (m : Str → Option Value) (env : Env) (elt : Expr) (x : Str) (scope : Scope) (cl : List (Str × Addr)) (Fin : Shared → List Value → Led → Prop) (xv : Value) (s₁ : Shared) : Prop :=
  ∃ ax a b c news, xv = .ref ax ∧ A.handled = none ∧ Fr h₀ L s₁.heap m ∧ News h₀ L s₁.heap news ∧ (ax, tupR a b c) ∈ news ∧
    ∀ s₂ : Shared, (∃ h, s₂ = { s₁ with heap := h }) → LCg.CompRest prog w A h₀ L m env elt x scope cl s₂ (fun nx => (ax, tupR a b c) ∈ nx) (fun i v => (#[.ref a, .ref b] : Array Value)[i]? = some v) (Fin s₂) 2 0 [] news
theorem comp_tuple {prog : Program} {w : World} {A : Around} {E : Value → Shared → Prop} {s : Shared} {h₀ : Heap} {L : Addr} {m : Str → Option Value} {env : Env} {elt iter : Expr} {x : Str} {px : Pos} {scope : Scope} {cl : List (Str × Addr)} {pos : Pos} {Q : Value → Shared → Prop}
    (hclos : closureFor scope env = pure cl) (hcell : ∀ y ∈ scope.names, y.2 ≠ .cell) (hkind : scope.kind = .function)
    (hnames : ∀ y ∈ scope.names, y.2 = .local → scope.names.lookup y.1 = some .local) (hx : scope.names.lookup x = some .local)
    (h : wpAny (model prog w) A (eval iter env) (SrcT prog w A h₀ L m env elt x scope cl (fun s₂ => LCg.FinE h₀ L m s₂ Q)) E s)
    (hs : ∀ x, foldedSetIterable iter env x = pure x := by intro _; rfl) :
    wpAny (model prog w) A (eval (.ListComp elt [⟨.Name x px, iter, [], 0⟩] scope pos) env) Q E s := by
  rw [eval_ListComp]
  refine wpAny_comprehension_free (use := none) rfl hs hclos hkind hnames (wpAny_mono h (fun xv s₁ h₁ => ?_) fun _ _ e => e)
  obtain ⟨ax, a, b, c, news, rfl, hh, F, N, hm, R⟩ := h₁
  have ht : s₁.heap.IsTuple ax #[.ref a, .ref b] := ⟨_, N.get hm, rfl, _, rfl⟩
  have hlt : ax < s₁.heap.objs.size := Heap.lt_size (N.get hm)
  refine wpAny_pyIter_tuple ht ?_
  have grow : ∀ b o, s₁.heap.get? b = some o → (s₁.heap.push { cls := .type "tuple_iterator", data := .fields #[.ref ax, .int 0 0] }).get? b = some o := fun b o e => Heap.get?_push_of_some _ e
  refine LCg.block_U (St := fun i h => h.IsTupleIter s₁.heap.objs.size ax i ∧ h.IsTuple ax #[.ref a, .ref b]) (n := 2) (Walks.tuple hh s₁.heap.objs.size ax (Nat.ne_of_lt hlt) #[.ref a, .ref b]) (by decide) ?io ?st hcell hkind hx ⟨⟨_, Heap.get?_push_size _ rfl, rfl, rfl⟩, ⟨_, grow _ _ (N.get hm), rfl, _, rfl⟩⟩ ?fp
    (F.keeps grow) (N.grown grow) (Nat.ne_of_lt F.ns.lt) (next_is_new F) (fun p hp => Nat.ne_of_lt (Heap.lt_size (N.get hp))) hm (R _ ⟨_, rfl⟩) ?fin
  case io => exact fun i h st => by obtain ⟨o, e, _⟩ := st.1; exact ⟨o, e⟩
  case st =>
    intro i h h' o nw st e e' _ N' hm'
    refine ⟨?_, ⟨_, N'.get hm', rfl, _, rfl⟩⟩
    obtain ⟨o', q, r⟩ := st.1
    rw [e] at q
    cases q
    exact ⟨o, e', r⟩
  case fp =>
    intro z hz
    rw [Heap.size_push]
    simp only [List.mem_cons, List.not_mem_nil, or_false] at hz
    rcases hz with rfl | rfl
    · exact Nat.lt_succ_self _
    · exact Nat.lt_succ_of_lt hlt
  case fin =>
    intro D C h tk m' ys news' F' N' o1 hn hC₀ hD₀ hCL hDL hCD offC fin
    refine ⟨m', hn, fun h'' hs'' => fin D h'' tk (F'.change hs'' hCL hC₀) (fun p hp => ⟨hs''.extBut _ _ ?_ (N' p hp).1, (N' p hp).2⟩) o1⟩
    rcases List.mem_cons.mp hp with rfl | hp
    · exact Ne.symm hCD
    · exact offC p hp
def ToldNext (d : Int × Nat) (nx : Led) (y : Value) (nx' : Led) : Prop := ∃ T t1 t2 c, y = .ref T ∧ nx' = (T, tupI d t1 t2 c) :: nx
/-- [number.told() for number in pair] -/
theorem told_src {w : World} {prog : Program} {A : Around} {s₁ : Shared} {h₀ : Heap} {L : Addr} {m : Str → Option Value} {env : Env} {elt : Expr} {x : Str} {scope : Scope} {cl : List (Str × Addr)} {Fin : Shared → List Value → Led → Prop} {ax a b : Addr} {c : Nat} {da db : Int × Nat} {news : Led}
    (hh : A.handled = none) (F : Fr h₀ L s₁.heap m) (N : News h₀ L s₁.heap news) (ht : (ax, tupR a b c) ∈ news) (ha : DecIn w news a da) (hb : DecIn w news b db)
    (turn : ∀ z d I oI C oC D m₂ ys nx h tk (E' : Value → Shared → Prop), DecIn w nx z d → (ax, tupR a b c) ∈ nx → LCg.NsObj oC m₂ → m₂ x = some (.ref z) → Fr h₀ L h m → News h₀ L h ((I, oI) :: (C, oC) :: (D, LCg.lst ys) :: nx) → LCg.Off3 I C D nx → ((@Ne Nat I C) ∧ (@Ne Nat I D) ∧ (@Ne Nat C D)) →
      wpAny (model prog w) A (eval elt (compEnvC scope cl C env)) (LCg.CompEnd h₀ L m { s₁ with heap := h, toks := tk } I oI C oC D (LCg.lst ys) (fun nx => (ax, tupR a b c) ∈ nx) (ToldNext d nx)) E' { s₁ with heap := h, toks := tk })
    (fin : ∀ g T1 T2 u1 u2 u3 v1 v2 v3, Fin { s₁ with heap := g } [.ref T1, .ref T2] ((T2, tupI db v1 v2 v3) :: (T1, tupI da u1 u2 u3) :: news)) :
    SrcT prog w A h₀ L m env elt x scope cl Fin (.ref ax) s₁ := by
  refine ⟨ax, a, b, c, news, rfl, hh, F, N, ht, ?_⟩
  rintro s₂ ⟨g, rfl⟩
  refine LCg.CompRest.succ ?_
  intro v I oI C oC D m₂ h tk E' hv hC hx F1 N1 off ne
  have ev : v = .ref a := by simpa using hv.symm
  subst ev
  refine wpAny_mono (turn a da I oI C oC D m₂ [] news h tk E' ha ht hC hx F1 N1 off ne) (fun y s₃ hq => ?_) (fun _ _ e => e)
  obtain ⟨h1, tk1, nw1, e1, F2, N2, off2, hS2, T1, u1, u2, u3, rfl, rfl⟩ := hq
  refine ⟨h1, tk1, _, e1, F2, N2, off2, hS2, ?_⟩
  refine LCg.CompRest.succ ?_
  intro v I oI C oC D m₂ h tk E' hv hC hx F1 N1 off ne
  have ev : v = .ref b := by simpa using hv.symm
  subst ev
  refine wpAny_mono (turn b db I oI C oC D m₂ _ _ h tk E' (hb.mono (fun _ h => .tail _ h)) hS2 hC hx F1 N1 off ne) (fun y s₃ hq => ?_) (fun _ _ e => e)
  obtain ⟨h1, tk1, nw1, e1, F2, N2, off2, hS2, T2, v1, v2, v3, rfl, rfl⟩ := hq
  exact ⟨h1, tk1, _, e1, F2, N2, off2, hS2, LCg.CompRest.zero (fin g T1 T2 u1 u2 u3 v1 v2 v3)⟩
/-- the end of a turn of [number.told() for number in pair] -/
theorem told_end {h₀ h' : Heap} {L I C D T : Addr} {m : Str → Option Value} {s₁ : Shared} {oI oC oD : Obj} {S : Led → Prop} {d : Int × Nat} {t1 t2 : Tok} {c tk' : Nat} {nx : Led}
    (F : Fr h₀ L h' m) (N : News h₀ L h' ((T, tupI d t1 t2 c) :: (I, oI) :: (C, oC) :: (D, oD) :: nx)) (o : ∀ q ∈ (I, oI) :: (C, oC) :: (D, oD) :: nx, ∀ p ∈ [(T, tupI d t1 t2 c)], q.1 < p.1) (off : LCg.Off3 I C D nx) (hS : S ((T, tupI d t1 t2 c) :: nx)) :
    LCg.CompEnd h₀ L m s₁ I oI C oC D oD S (ToldNext d nx) (.ref T) { s₁ with heap := h', toks := tk' } := by
  refine LCg.CompEnd.intro F N ((T, tupI d t1 t2 c) :: nx) ?_ ⟨⟨?_, ?_, ?_⟩, off⟩ hS ⟨T, t1, t2, c, rfl, rfl⟩
  · intro p hp
    simp only [List.mem_cons] at hp ⊢
    rcases hp with h | h | h | h | h <;> simp only [h, true_or, or_true]
  · exact Nat.ne_of_gt (o _ (.head _) _ (.head _))
  · exact Nat.ne_of_gt (o _ (.tail _ (.head _)) _ (.head _))
  · exact Nat.ne_of_gt (o _ (.tail _ (.tail _ (.head _))) _ (.head _))
theorem main_facts {ss : List (Mat × Mat)} (h : ∀ p ∈ ss, StepOk p.1 p.2) (hl : ss.length ≤ 6) {d e : Int} (d1 : d < 9001) (e1 : e < 9001) (d0 : 0 ≤ d) (e0 : 0 ≤ e) :
    OkB 13 2 (nrm (d - 4500) (Int.toNat 2)) ∧ OkB 13 2 (nrm (e - 4500) (Int.toNat 2)) ∧
    OkB 500 50 (appR (goFold ss).1 (nrm (d - 4500) (Int.toNat 2)) (nrm (e - 4500) (Int.toNat 2))) ∧ OkB 500 50 (appU (goFold ss).1 (nrm (d - 4500) (Int.toNat 2)) (nrm (e - 4500) (Int.toNat 2))) ∧
    adjR (goFold ss).1 (appR (goFold ss).1 (nrm (d - 4500) (Int.toNat 2)) (nrm (e - 4500) (Int.toNat 2))) (appU (goFold ss).1 (nrm (d - 4500) (Int.toNat 2)) (nrm (e - 4500) (Int.toNat 2))) = nrm (d - 4500) (Int.toNat 2) ∧
    adjU (goFold ss).1 (appR (goFold ss).1 (nrm (d - 4500) (Int.toNat 2)) (nrm (e - 4500) (Int.toNat 2))) (appU (goFold ss).1 (nrm (d - 4500) (Int.toNat 2)) (nrm (e - 4500) (Int.toNat 2))) = nrm (e - 4500) (Int.toNat 2) ∧
    appR (goFold ss).2 (appR (goFold ss).1 (nrm (d - 4500) (Int.toNat 2)) (nrm (e - 4500) (Int.toNat 2))) (appU (goFold ss).1 (nrm (d - 4500) (Int.toNat 2)) (nrm (e - 4500) (Int.toNat 2))) = nrm (d - 4500) (Int.toNat 2) ∧
    appU (goFold ss).2 (appR (goFold ss).1 (nrm (d - 4500) (Int.toNat 2)) (nrm (e - 4500) (Int.toNat 2))) (appU (goFold ss).1 (nrm (d - 4500) (Int.toNat 2)) (nrm (e - 4500) (Int.toNat 2))) = nrm (e - 4500) (Int.toNat 2) := by
  have hX : OkB 13 2 (nrm (d - 4500) (Int.toNat 2)) := okb_pt (by omega) (by omega)
  have hY : OkB 13 2 (nrm (e - 4500) (Int.toNat 2)) := okb_pt (by omega) (by omega)
  have f := far_ok h hl hX hY
  have a := back_adj h (canon_nrm (Int.toNat 2) (d - 4500)) (canon_nrm (Int.toNat 2) (e - 4500))
  have b := back_home h (canon_nrm (Int.toNat 2) (d - 4500)) (canon_nrm (Int.toNat 2) (e - 4500))
  exact ⟨hX, hY, f.1, f.2, a.1, a.2, b.1, b.2⟩
theorem inverse20 (w : World) (z x y : Addr) (M : Mat) (a b X Y : Int × Nat) (tk : Tok) (news : Led) (hz : MatIn w news z M) (hx : DecIn w news x a) (hy : DecIn w news y b) (hM : MOk M) (oa : OkB 500 50 a) (ob : OkB 500 50 b)
    (hd : detM M = (1, 0)) (eX : adjR M a b = X) (eY : adjU M a b = Y) (cX : Canon X) (cY : Canon Y) (pX : X.2 ≤ 20) (pY : Y.2 ≤ 20) : Tell w 20 285 [.ref z, .ref x, .ref y, .int 20 tk] news (PairNew w X Y) := by
  have := inverse1 w z x y M a b X Y 20 tk news hz hx hy hM oa ob hd (by decide) (by decide) eX eY cX cY
  have e1 : dround X (Int.toNat 20) = X := if_pos pX
  have e2 : dround Y (Int.toNat 20) = Y := if_pos pY
  rw [e1, e2] at this
  exact this
theorem told1 (w : World) (x dx : Addr) (t : Int) (p : Nat) (k1 k2 tt tp : Tok) (news : Led) (h1 : (x, instObj 143 dx) ∈ news) (h2 : (dx, decD w t p k1 k2 tt tp) ∈ news) :
    Tell w 5 126 [.ref x] news (fun r tl => ∃ D t1 t2 c, r = .ref D ∧ tl = [(D, ({ cls := .type "tuple", data := .seq #[.int t t1, .int p t2] c } : Obj))]) :=
  decTold w x (t, p) news ⟨dx, k1, k2, tt, tp, h1, h2⟩
theorem callWith_own {w : World} {A : Around} {Q E : Value → Shared → Prop} {s : Shared} {h₀ : Heap} {L : Addr} {m : Str → Option Value} {pos : Pos} {f : Value} {first : List Value} {env : Env} {prog : Program} (F : Fr h₀ L s.heap m) (X : (hd.heap_1 w.params).In h₀) (hk : keepIn (hd.heap_1 w.params) f = true)
    (h : wpAny (model prog w) A (call f (first ++ [])) Q E s) : wpAny (model prog w) A (callWith pos f first (backTo pos (starEach [] env)) []) Q E s :=
  callWith_K0 (X.keeps F.keep) hk h
abbrev lstR (a b : Addr) (n : Nat) : Obj := { cls := .type "list", data := .seq #[.ref a, .ref b] n }
abbrev tupV (x y : Int) (t1 t2 : Tok) (c : Nat) : Obj := { cls := .type "tuple", data := .seq #[.int x t1, .int y t2] c }
theorem reads_tupV {h₀ h : Heap} {L T : Addr} {news : Led} {x y : Int} {t1 t2 : Tok} {c : Nat} (N : News h₀ L h news) (hm : (T, tupV x y t1 t2 c) ∈ news) : Reads h (.ref T) (.tuple [.int x, .int y]) [] :=
  reads_tuple_at (N.get hm) rfl rfl (ReadsAll.cons (Reads.int _ _) (ReadsAll.cons (Reads.int _ _) ReadsAll.nil))
theorem reads_lstR {h₀ h : Heap} {L D T S : Addr} {news : Led} {x y x' y' : Int} {t1 t2 t3 t4 : Tok} {c c' n : Nat} (N : News h₀ L h news) (hd : (D, lstR T S n) ∈ news) (hm : (T, tupV x y t1 t2 c) ∈ news) (hn : (S, tupV x' y' t3 t4 c') ∈ news) :
    Reads h (.ref D) (.list [.tuple [.int x, .int y], .tuple [.int x', .int y']]) [D] :=
  reads_list_at (N.get hd) rfl rfl (ReadsAll.cons (reads_tupV N hm) (ReadsAll.cons (reads_tupV N hn) ReadsAll.nil))
section
variable {prog : Program} {w : World} {A : Around} {E : Value → Shared → Prop} {s : Shared} {h₀ : Heap} {L a b T S T' S' : Addr} {news : Led} {x y x' y' z u z' u' : Int} {t1 t2 t3 t4 t5 t6 t7 t8 : Tok} {c c' c1 c2 n n' : Nat} {Q : Value → Shared → Prop}
theorem ne_tups (N : News h₀ L s.heap news) (ha : (a, tupV x y t1 t2 c) ∈ news) (hb : (b, tupV x' y' t3 t4 c') ∈ news) (hx : x = x') (hy : y = y') (hu : A.units + 64 < cLine) (h : Q (.bool false) s) :
    wpAny (model prog w) A (compareOp .NotEq (.ref a) (.ref b)) Q E s := by
  subst hx; subst hy
  refine ne_dataH (reads_tupV N ha) (reads_tupV N hb) rfl rfl hu ?_
  have e : PyData.eqv (.tuple [.int x, .int y]) (.tuple [.int x, .int y]) = true := by simp [PyData.eqv, PyData.eqvAll]
  rw [e]; exact h
theorem ne_lsts (N : News h₀ L s.heap news) (ha : (a, lstR T S n) ∈ news) (hb : (b, lstR T' S' n') ∈ news) (h1 : (T, tupV x y t1 t2 c) ∈ news) (h2 : (S, tupV z u t3 t4 c') ∈ news) (h3 : (T', tupV x' y' t5 t6 c1) ∈ news) (h4 : (S', tupV z' u' t7 t8 c2) ∈ news)
    (hx : x = x') (hy : y = y') (hz : z = z') (hw : u = u') (hu : A.units + 64 < cLine) (h : Q (.bool false) s) : wpAny (model prog w) A (compareOp .NotEq (.ref a) (.ref b)) Q E s := by
  subst hx; subst hy; subst hz; subst hw
  refine ne_dataH (reads_lstR N ha h1 h2) (reads_lstR N hb h3 h4) rfl rfl hu ?_
  have e : PyData.eqv (.list [.tuple [.int x, .int y], .tuple [.int z, .int u]]) (.list [.tuple [.int x, .int y], .tuple [.int z, .int u]]) = true := by simp [PyData.eqv, PyData.eqvAll]
  rw [e]; exact h
theorem eq_lsts (N : News h₀ L s.heap news) (ha : (a, lstR T S n) ∈ news) (hb : (b, lstR T' S' n') ∈ news) (h1 : (T, tupV x y t1 t2 c) ∈ news) (h2 : (S, tupV z u t3 t4 c') ∈ news) (h3 : (T', tupV x' y' t5 t6 c1) ∈ news) (h4 : (S', tupV z' u' t7 t8 c2) ∈ news)
    (hx : x = x') (hy : y = y') (hz : z = z') (hw : u = u') (hu : A.units + 64 < cLine) (h : Q (.bool true) s) : wpAny (model prog w) A (compareOp .Eq (.ref a) (.ref b)) Q E s := by
  subst hx; subst hy; subst hz; subst hw
  refine eq_dataH (reads_lstR N ha h1 h2) (reads_lstR N hb h3 h4) rfl rfl hu ?_
  have e : PyData.eqv (.list [.tuple [.int x, .int y], .tuple [.int z, .int u]]) (.list [.tuple [.int x, .int y], .tuple [.int z, .int u]]) = true := by simp [PyData.eqv, PyData.eqvAll]
  rw [e]; exact h
end
theorem comp_tupleF {prog : Program} {w : World} {A : Around} {E : Value → Shared → Prop} {s : Shared} {h₀ : Heap} {L : Addr} {m : Str → Option Value} {env : Env} {elt iter : Expr} {x : Str} {px : Pos} {scope : Scope} {cl : List (Str × Addr)} {pos : Pos} {Q : Value → Shared → Prop} (_F : Fr h₀ L s.heap m)
    (hclos : closureFor scope env = pure cl) (hcell : ∀ y ∈ scope.names, y.2 ≠ .cell) (hkind : scope.kind = .function)
    (hnames : ∀ y ∈ scope.names, y.2 = .local → scope.names.lookup y.1 = some .local) (hx : scope.names.lookup x = some .local)
    (hs : ∀ x, foldedSetIterable iter env x = pure x)
    (h : wpAny (model prog w) A (eval iter env) (SrcT prog w A h₀ L m env elt x scope cl (fun s₂ => LCg.FinE h₀ L m s₂ Q)) E s) :
    wpAny (model prog w) A (eval (.ListComp elt [⟨.Name x px, iter, [], 0⟩] scope pos) env) Q E s := comp_tuple hclos hcell hkind hnames hx h hs
theorem newPair {prog : Program} {w : World} {A : Around} {E : Value → Shared → Prop} {s : Shared} {h₀ : Heap} {L : Addr} {m : Str → Option Value} {news : Led} {x y : Value} {Q : Value → Shared → Prop} (F : Fr h₀ L s.heap m) (N : News h₀ L s.heap news)
    (h : ∀ l h', Fr h₀ L h' m → News h₀ L h' ((l, ({ cls := .type "list", data := .seq #[x, y] 0 } : Obj)) :: news) → (∀ p ∈ news, p.1 < l) → Q (.ref l) { s with heap := h' }) : wpAny (model prog w) A (newList [x, y]) Q E s :=
  newList_K F N h (by rw [sizeLine_eq]; show 2 ≤ _; decide)
theorem pen_frontK {h₀ h : Heap} {L pa : Addr} {o : Obj} {big oth rest' : Led} {R : Prop} (_ : ∀ p ∈ rest', p.1 ≠ pa) (N : News h₀ L h big) (P : Pull pa big o oth) (off : ∀ p ∈ oth, p.1 ≠ pa) (k : News h₀ L h ((pa, o) :: oth) → (∀ p ∈ oth, p.1 ≠ pa) → R) : R := k (drop_to N P.sub) off
theorem off_five {a : Addr} {t x y z u : Addr × Obj} {r : Led} (h : ∀ p ∈ [t, x, y, z, u], p.1 ≠ a) (k : ∀ p ∈ r, p.1 ≠ a) : ∀ p ∈ t :: x :: y :: z :: u :: r, p.1 ≠ a := off_app (l := [t, x, y, z, u]) h k
theorem back_toK {h₀ h : Heap} {L pa : Addr} {o : Obj} {now oth : Led} {R : Prop} (_ : ∀ p ∈ oth, p.1 ≠ pa) (N : News h₀ L h now) (hp : (pa, o) ∈ now) (hs : ∀ p ∈ oth, p ∈ now) (k : News h₀ L h ((pa, o) :: oth) → R) : R := k fun p hq => (List.mem_cons.mp hq).elim (fun e => e ▸ N _ hp) (fun hq => N p (hs p hq))
local macro_rules | `(tactic| walk_at "callWith ref") => `(tactic| (k_here; (with_reducible show wpAny _ _ (callWith _ (Value.ref _) _ (backTo _ (starEach [] _)) []) _ _ _); k_dflt (refine' callWith_own ?kF ?kX ?k2 ?_; (case kF => k_asm); (case kX => k_asm); (case k2 => k_is); k_whole); (try dsimp only [List.nil_append, List.cons_append])))
local macro_rules | `(tactic| walk_at "subscriptTail Name Constant ref int") => `(tactic| (k_here; (with_reducible show wpAny _ _ (subscriptTail _ _ (Value.ref _) (Value.int _ _)) _ _ _); k_dflt (refine' item_tupleT (News.isTup ?kN ?km) ?ka ?kb ?kc ?kd ?_; (case kN => k_asm); (case km => k_mem); (case ka => decide); (case kb => decide); (case kc => rfl); (case kd => rfl); k_whole)))
local macro_rules | `(tactic| walk_at "newList") => `(tactic| (k_here; (with_reducible show wpAny _ _ (newList [_, _]) _ _ _); k_dflt (refine' newPair ?k1 ?k2 ?_; (case k1 => k_asm); (case k2 => k_asm); k_whole); intro l' h' F' N' l1; (try k_sweep)))
local macro_rules | `(tactic| walk_at "call ref") => `(tactic| (k_here; (with_reducible show wpAny _ _ (call (Value.ref 143) [Value.int _ _, Value.int _ _]) _ _ _); k_dflt (refine' tell_use (newDec _ _ _ _ _ _ ?kp) ?k1 ?k2 ?k3 ?k4 ?k5 ?kK ?kd ?ku ?_; (case k1 => k_asm); (case k2 => k_asm); (case k3 => k_asm); (case k4 => k_asm); (case k5 => k_asm); (case kp => omega); (case kK => first | exact rfl | assumption); (case kd => ktr_room); (case ku => ktr_units); intro r9 tl9 h9 tk9 F9 N9 hl9 ho9; obtain ⟨x9, dx9, k19, k29, tt9, tp9, er9, et9⟩ := ho9; subst er9; subst et9; (try simp only [List.cons_append, List.nil_append] at N9); (try k_sweep); (try k_fold))))
local macro_rules | `(tactic| walk_at "call ref") => `(tactic| (k_here; (with_reducible show wpAny _ _ (call (Value.ref 126) _) _ _ _); k_dflt (refine' tell_use (decTold _ _ _ _ ?kx) ?k1 ?k2 ?k3 ?k4 ?k5 ?kK ?kd ?ku ?_; (case k1 => k_asm); (case k2 => k_asm); (case k3 => k_asm); (case k4 => k_asm); (case k5 => k_asm); (case kx => first | assumption | (refine DecIn.mono (by assumption) ?_; repeat' (first | (with_reducible assumption) | (with_reducible exact (fun _ h => h)) | (with_reducible refine sub_cons ?_) | (with_reducible refine sub_app ?_))) | (refine' decIn_of ?ia ?ib; (case ia => k_mem); (case ib => k_mem))); (case kK => first | exact rfl | assumption); (case kd => ktr_room); (case ku => ktr_units); intro r9 tl9 h9 tk9 F9 N9 hl9 ho9; obtain ⟨D9, t19, t29, c9, er9, et9⟩ := ho9; subst er9; subst et9; (try simp only [List.cons_append, List.nil_append] at N9); (try k_sweep); (try k_fold))))
local macro_rules | `(tactic| walk_at "call ref") => `(tactic| (k_here; (with_reducible show wpAny _ _ (call (Value.ref 243) _) _ _ _); k_dflt (refine' tell_use (identity_ _ _) ?k1 ?k2 ?k3 ?k4 ?k5 ?kK ?kd ?ku ?_; (case k1 => k_asm); (case k2 => k_asm); (case k3 => k_asm); (case k4 => k_asm); (case k5 => k_asm); (case kK => first | exact rfl | assumption); (case kd => ktr_room); (case ku => ktr_units); intro r9 tl9 h9 tk9 F9 N9 hl9 ho9; obtain ⟨x9, er9, hin9⟩ := ho9; subst er9; (try simp only [List.nil_append, List.append_nil] at hin9); (try simp only [List.cons_append, List.nil_append] at N9); (try k_sweep); (try k_fold))))
local macro_rules | `(tactic| walk_at "call ref") => `(tactic| (k_here; (with_reducible show wpAny _ _ (call (Value.ref 210) [_, _, _]) _ _ _); k_dflt (refine' tell_use (applied_ _ _ _ _ _ _ _ _ ?kz ?kx ?ky ?ko ?koa ?kob) ?k1 ?k2 ?k3 ?k4 ?k5 ?kK ?kd ?ku ?_; (case k1 => k_asm); (case k2 => k_asm); (case k3 => k_asm); (case k4 => k_asm); (case k5 => k_asm); (case kz => first | assumption | (refine MatIn.mono (by assumption) ?_; repeat' (first | (with_reducible assumption) | (with_reducible exact (fun _ h => h)) | (with_reducible refine sub_cons ?_) | (with_reducible refine sub_app ?_)))); (case kx => first | assumption | (refine DecIn.mono (by assumption) ?_; repeat' (first | (with_reducible assumption) | (with_reducible exact (fun _ h => h)) | (with_reducible refine sub_cons ?_) | (with_reducible refine sub_app ?_))) | (refine' decIn_of ?ia ?ib; (case ia => k_mem); (case ib => k_mem))); (case ky => first | assumption | (refine DecIn.mono (by assumption) ?_; repeat' (first | (with_reducible assumption) | (with_reducible exact (fun _ h => h)) | (with_reducible refine sub_cons ?_) | (with_reducible refine sub_app ?_))) | (refine' decIn_of ?ia ?ib; (case ia => k_mem); (case ib => k_mem))); (case ko => assumption); (case koa => ktr_rel); (case kob => ktr_rel); (case kK => first | exact rfl | assumption); (case kd => ktr_room); (case ku => ktr_units); intro r9 tl9 h9 tk9 F9 N9 hl9 ho9; obtain ⟨D9, x9, dx9, y9, dy9, k19, k29, k39, k49, k59, k69, k79, k89, c9, er9, et9⟩ := ho9; subst er9; subst et9; (try simp only [List.cons_append, List.nil_append] at N9); (try k_sweep); (try k_fold))))
local macro_rules | `(tactic| walk_at "call ref") => `(tactic| (k_here; (with_reducible show wpAny _ _ (call (Value.ref 203) [_, _]) _ _ _); k_dflt (refine' tell_use (matTimes _ _ _ _ _ _ ?kz ?kx ?ko ?koa) ?k1 ?k2 ?k3 ?k4 ?k5 ?kK ?kd ?ku ?_; (case k1 => k_asm); (case k2 => k_asm); (case k3 => k_asm); (case k4 => k_asm); (case k5 => k_asm); (case kz => first | assumption | (refine MatIn.mono (by assumption) ?_; repeat' (first | (with_reducible assumption) | (with_reducible exact (fun _ h => h)) | (with_reducible refine sub_cons ?_) | (with_reducible refine sub_app ?_)))); (case kx => first | assumption | (refine MatIn.mono (by assumption) ?_; repeat' (first | (with_reducible assumption) | (with_reducible exact (fun _ h => h)) | (with_reducible refine sub_cons ?_) | (with_reducible refine sub_app ?_)))); (case ko => assumption); (case koa => assumption); (case kK => first | exact rfl | assumption); (case kd => ktr_room); (case ku => ktr_units); intro r9 tl9 h9 tk9 F9 N9 hl9 ho9; obtain ⟨x9, er9, hin9⟩ := ho9; subst er9; (try simp only [List.nil_append, List.append_nil] at hin9); (try simp only [List.cons_append, List.nil_append] at N9); (try k_sweep); (try k_fold))))
local macro_rules | `(tactic| walk_at "call ref") => `(tactic| (k_here; (with_reducible show wpAny _ _ (call (Value.ref 271) [_]) _ _ _); k_dflt (refine' tell_use (determ1 _ _ _ _ ?kz ?ko ?kdt) ?k1 ?k2 ?k3 ?k4 ?k5 ?kK ?kd ?ku ?_; (case k1 => k_asm); (case k2 => k_asm); (case k3 => k_asm); (case k4 => k_asm); (case k5 => k_asm); (case kz => first | assumption | (refine MatIn.mono (by assumption) ?_; repeat' (first | (with_reducible assumption) | (with_reducible exact (fun _ h => h)) | (with_reducible refine sub_cons ?_) | (with_reducible refine sub_app ?_)))); (case ko => with_reducible assumption); (case kdt => with_reducible assumption); (case kK => first | exact rfl | assumption); (case kd => ktr_room); (case ku => ktr_units); intro r9 tl9 h9 tk9 F9 N9 hl9 ho9; obtain ⟨x9, dx9, k19, k29, tt9, tp9, er9, et9⟩ := ho9; subst er9; subst et9; (try simp only [List.cons_append, List.nil_append] at N9); (try k_sweep); (try k_fold))))
local macro_rules | `(tactic| walk_at "call ref") => `(tactic| (k_here; (with_reducible show wpAny _ _ (call (Value.ref 210) [_, _, _]) _ _ _); k_dflt (refine' tell_use (applied1 _ _ _ _ _ _ _ _ _ _ ?kz ?kx ?ky ?ko ?koa ?kob ?keX ?keY) ?k1 ?k2 ?k3 ?k4 ?k5 ?kK ?kd ?ku ?_; (case k1 => k_asm); (case k2 => k_asm); (case k3 => k_asm); (case k4 => k_asm); (case k5 => k_asm); (case kz => first | assumption | (refine MatIn.mono (by assumption) ?_; repeat' (first | (with_reducible assumption) | (with_reducible exact (fun _ h => h)) | (with_reducible refine sub_cons ?_) | (with_reducible refine sub_app ?_)))); (case kx => refine' decIn_of ?ia ?ib; (case ia => k_mem); (case ib => k_mem)); (case ky => refine' decIn_of ?ia ?ib; (case ia => k_mem); (case ib => k_mem)); (case ko => with_reducible assumption); (case koa => first | with_reducible assumption | (refine' OkB.up (B := 13) (P := 2) ?oa ?ob ?oc; (case oa => with_reducible assumption); (case ob => decide); (case oc => decide))); (case kob => first | with_reducible assumption | (refine' OkB.up (B := 13) (P := 2) ?oa ?ob ?oc; (case oa => with_reducible assumption); (case ob => decide); (case oc => decide))); (case keX => with_reducible assumption); (case keY => with_reducible assumption); (case kK => first | exact rfl | assumption); (case kd => ktr_room); (case ku => ktr_units); intro r9 tl9 h9 tk9 F9 N9 hl9 ho9; obtain ⟨D9, x9, dx9, y9, dy9, k19, k29, k39, k49, k59, k69, k79, k89, c9, er9, et9⟩ := ho9; subst er9; subst et9; (try simp only [List.cons_append, List.nil_append] at N9); (try k_sweep); (try k_fold))))
local macro_rules | `(tactic| walk_at "call ref") => `(tactic| (k_here; (with_reducible show wpAny _ _ (call (Value.ref 285) [_, _, _, _]) _ _ _); k_dflt (refine' tell_use (inverse1 _ _ _ _ _ _ _ _ _ _ _ _ ?kz ?kx ?ky ?ko ?koa ?kob ?kdt ?kk0 ?kk2 ?keX ?keY ?kcX ?kcY) ?k1 ?k2 ?k3 ?k4 ?k5 ?kK ?kd ?ku ?_; (case k1 => k_asm); (case k2 => k_asm); (case k3 => k_asm); (case k4 => k_asm); (case k5 => k_asm); (case kz => first | assumption | (refine MatIn.mono (by assumption) ?_; repeat' (first | (with_reducible assumption) | (with_reducible exact (fun _ h => h)) | (with_reducible refine sub_cons ?_) | (with_reducible refine sub_app ?_)))); (case kx => refine' decIn_of ?ia ?ib; (case ia => k_mem); (case ib => k_mem)); (case ky => refine' decIn_of ?ia ?ib; (case ia => k_mem); (case ib => k_mem)); (case ko => with_reducible assumption); (case koa => first | with_reducible assumption | (refine' OkB.up (B := 13) (P := 2) ?oa ?ob ?oc; (case oa => with_reducible assumption); (case ob => decide); (case oc => decide))); (case kob => first | with_reducible assumption | (refine' OkB.up (B := 13) (P := 2) ?oa ?ob ?oc; (case oa => with_reducible assumption); (case ob => decide); (case oc => decide))); (case kdt => with_reducible assumption); (case kk0 => omega); (case kk2 => omega); (case keX => with_reducible assumption); (case keY => with_reducible assumption); (case kcX => exact canon_nrm _ _); (case kcY => exact canon_nrm _ _); (case kK => first | exact rfl | assumption); (case kd => ktr_room); (case ku => ktr_units); intro r9 tl9 h9 tk9 F9 N9 hl9 ho9; obtain ⟨D9, x9, dx9, y9, dy9, k19, k29, k39, k49, k59, k69, k79, k89, c9, er9, et9⟩ := ho9; subst er9; subst et9; (try simp only [List.cons_append, List.nil_append] at N9); (try k_sweep); (try k_fold))))
local macro_rules | `(tactic| walk_at "call ref") => `(tactic| (k_here; (with_reducible show wpAny _ _ (call (Value.ref 285) [_, _, _, Value.int 20 _]) _ _ _); k_dflt (refine' tell_use (inverse20 _ _ _ _ _ _ _ _ _ _ _ ?kz ?kx ?ky ?ko ?koa ?kob ?kdt ?keX ?keY ?kcX ?kcY ?kpX ?kpY) ?k1 ?k2 ?k3 ?k4 ?k5 ?kK ?kd ?ku ?_; (case k1 => k_asm); (case k2 => k_asm); (case k3 => k_asm); (case k4 => k_asm); (case k5 => k_asm); (case kz => first | assumption | (refine MatIn.mono (by assumption) ?_; repeat' (first | (with_reducible assumption) | (with_reducible exact (fun _ h => h)) | (with_reducible refine sub_cons ?_) | (with_reducible refine sub_app ?_)))); (case kx => refine' decIn_of ?ia ?ib; (case ia => k_mem); (case ib => k_mem)); (case ky => refine' decIn_of ?ia ?ib; (case ia => k_mem); (case ib => k_mem)); (case ko => with_reducible assumption); (case koa => first | with_reducible assumption | (refine' OkB.up (B := 13) (P := 2) ?oa ?ob ?oc; (case oa => with_reducible assumption); (case ob => decide); (case oc => decide))); (case kob => first | with_reducible assumption | (refine' OkB.up (B := 13) (P := 2) ?oa ?ob ?oc; (case oa => with_reducible assumption); (case ob => decide); (case oc => decide))); (case kdt => with_reducible assumption); (case keX => with_reducible assumption); (case keY => with_reducible assumption); (case kcX => exact canon_nrm _ _); (case kcY => exact canon_nrm _ _); (case kpX => exact Nat.le_trans (And.right (show OkB 13 2 _ by assumption)) (by decide)); (case kpY => exact Nat.le_trans (And.right (show OkB 13 2 _ by assumption)) (by decide)); (case kK => first | exact rfl | assumption); (case kd => ktr_room); (case ku => ktr_units); intro r9 tl9 h9 tk9 F9 N9 hl9 ho9; obtain ⟨D9, x9, dx9, y9, dy9, k19, k29, k39, k49, k59, k69, k79, k89, c9, er9, et9⟩ := ho9; subst er9; subst et9; (try simp only [List.cons_append, List.nil_append] at N9); (try k_sweep); (try k_fold))))
local macro_rules | `(tactic| walk_at "call ref") => `(tactic| (k_here; (with_reducible show wpAny _ _ (call (Value.ref 119) [Value.ref _, Value.int _ _]) _ _ _); k_dflt (refine' tell_use (rounded_ _ _ _ _ _ _ ?kx ?ko ?kk) ?k1 ?k2 ?k3 ?k4 ?k5 ?kK ?kd ?ku ?_; (case k1 => k_asm); (case k2 => k_asm); (case k3 => k_asm); (case k4 => k_asm); (case k5 => k_asm); (case kx => refine' decIn_of ?ia ?ib; (case ia => k_mem); (case ib => k_mem)); (case ko => first | with_reducible assumption | (refine' OkB.up (B := 13) (P := 2) ?oa ?ob ?oc; (case oa => with_reducible assumption); (case ob => decide); (case oc => decide))); (case kk => omega); (case kK => first | exact rfl | assumption); (case kd => ktr_room); (case ku => ktr_units); intro r9 tl9 h9 tk9 F9 N9 hl9 ho9; obtain ⟨x9, er9, hin9⟩ := ho9; subst er9; obtain ⟨dx9, k19, k29, tt9, tp9, hm19, hm29⟩ := hin9; (try simp only [List.nil_append, List.append_nil] at hm19 hm29); (try simp only [List.cons_append, List.nil_append] at N9); (try k_sweep); (try k_fold))))
local macro_rules | `(tactic| walk_at "call ref") => `(tactic| (k_here; (with_reducible show wpAny _ _ (call (Value.ref 126) _) _ _ _); k_dflt (refine' tell_use (told1 _ _ _ _ _ _ _ _ _ _ ?ka ?kb) ?k1 ?k2 ?k3 ?k4 ?k5 ?kK ?kd ?ku ?_; (case k1 => k_asm); (case k2 => k_asm); (case k3 => k_asm); (case k4 => k_asm); (case k5 => k_asm); (case ka => first | with_reducible assumption | k_mem); (case kb => first | with_reducible assumption | k_mem); (case kK => first | exact rfl | assumption); (case kd => ktr_room); (case ku => ktr_units); intro r9 tl9 h9 tk9 F9 N9 hl9 ho9; obtain ⟨D9, t19, t29, c9, er9, et9⟩ := ho9; subst er9; subst et9; (try simp only [List.cons_append, List.nil_append] at N9); (try k_sweep); (try k_fold))))
local macro_rules | `(tactic| ktr_rel) => `(tactic| exact (okb_pt (by omega) (by omega)).up (by decide) (by decide))
theorem start_facts {h₀ h : Heap} {L pa ca x cc : Addr} {ys : List Value} {ns : List Int} {o1 oc : Obj} {t1 t2 : Tok} {n : Nat} (N : News h₀ L h [(pa, penO ca 0 0 t1 t2 n), (ca, LCg.lst ys), (x, o1), (cc, oc)]) (hi : IntsAre ys ns) (hl : ns.length ≤ 63) (l1 : ca < pa ∧ x < pa ∧ cc < pa) :
    CellsIn [(ca, LCg.lst ys), (x, o1), (cc, oc)] ca ∧ (∀ p ∈ [(ca, LCg.lst ys), (x, o1), (cc, oc)], p.1 ≠ pa) := by
  refine ⟨cellsIn_of (.head _) hi hl, ?_⟩
  intro p hp
  simp only [List.mem_cons, List.not_mem_nil, or_false] at hp
  rcases hp with rfl | rfl | rfl
  · exact Nat.ne_of_lt l1.1
  · exact Nat.ne_of_lt l1.2.1
  · exact Nat.ne_of_lt l1.2.2
set_option maxHeartbeats 40000000 in
theorem main_ : Walk hd := walk_of hd (by
  k_go0
  all_goals (try k_fold)
  repeat (first | (fail_if_success (with_reducible show wpAny _ _ (exec (Stmt.Assign [Expr.Name (Str.ofString "steps") _] _ _) _) _ _ _)); (first | (k_unfold; (try dsimp only)) | walk1))
  obtain ⟨hc, hoff⟩ := start_facts (by assumption) (by assumption) (by simp only [List.length_map, List.length_take]; omega) (by assumption)
  repeat (first | (fail_if_success (with_reducible show LCg.CompSrc _ _ _ _ _ _ _ _ _ _ _ _ _ _)); (first | (k_unfold; (try dsimp only)) | walk1))
  refine' LCg.CompSrc.range rfl ?F ?N ?hr ?hsm (rangeSize_nat _ _) ?hsz ?h
  (case F => k_asm)
  (case N => k_asm)
  (case hr => assumption)
  (case hsm => exact small_one (by decide) (by decide) (by omega) (by omega))
  (case hsz => rw [sizeLine_eq]; omega)
  (case h =>
    intro g
    refine' comp_inv2 ?h0 ?turn ?fin
    (case h0 => exact comp_start hc hoff (by assumption) (by assumption) (by assumption))
    (case turn =>
      intro i v I oI C oC D m₂ ys nx h tk E' hi hP hJ hC hx F N off ne
      obtain ⟨spot, rest, t1, t2, n, oth, ss, rfl, hc1, hoff1, hcc, hs0, hs1, hr, hst, hlen⟩ := hJ
      have hoff2 := comp_off (oI := oI) (oC := oC) (oD := LCg.lst ys) off hoff1
      repeat (first | (fail_if_success (with_reducible show LCg.CompEnd _ _ _ _ _ _ _ _ _ _ _ _ _ _)); (first | (k_unfold; (try dsimp only)) | walk1))
      refine' comp_turn_end ?F ?N ?o ?ho off hc1 hoff1 hcc ?h1 ?h2 hs1 ?h3 ?ok ?inn hst hlen
      (case F => assumption)
      (case N => assumption)
      (case o => assumption)
      (case ho => assumption)
      (case h1 => assumption)
      (case h2 => assumption)
      (case h3 => assumption)
      (case ok => assumption)
      (case inn => assumption))
    (case fin =>
      intro ys nx hJ
      obtain ⟨spot, rest, t1, t2, n, oth, ss, rfl, hc1, hoff1, hcc, hs0, hs1, hr, hst, hlen⟩ := hJ
      unfold LCg.FinA
      intro D h tk F N o1
      dsimp only
      repeat (first | (fail_if_success (with_reducible show wpAny _ _ (exec (Stmt.For _ _ _ _ _) _) _ _ _)); (first | (k_unfold; (try dsimp only)) | walk1))
      have hsl := hst.len
      have hl6 : ss.length ≤ 6 := by omega
      have hok := fold_mok hst.ok hl6
      have hso := steps_mok hst.ok
      (rename Fr _ _ _ _ => lF')
      obtain ⟨lN', lJ'⟩ := loop_start (ss := ss) lF' (by assumption) (by assumption) (by assumption) hoff1 o1 (by assumption) (by assumption) (by rfl) (by rfl)
      (with_unfolding_all refine' For_invVF lF' ?k1 ?k2 ?_; (case k1 => exact rfl); (case k2 => exact rfl))
      walk1
      refine' loop_iter lJ' (hst.mono (fun p hp => .tail _ hp)) hok hso rfl ?hl ?F ?N ?turn ?done
      (case hl => exact mem_tail (mem_r (mem_r (.head _))))
      (case F => assumption)
      (case N => assumption)
      (case turn =>
        intro i SA SB D0 x y wa ho c rest' own h tk e ok1 ok2 ok3 ok4 hD0 Mx My Mwa Mho hoff' hb' hown hlD F N
        obtain ⟨wdx, _, _, _, _, _, _, _, _, _, _, _, _, wm1, wm2, _⟩ := id Mwa
        obtain ⟨ydx, _, _, _, _, _, _, _, _, _, _, _, _, ym1, ym2, _⟩ := id My
        (try k_fold)
        repeat (first | (fail_if_success (with_reducible show InvPostG _ _ _ _ _ _ _ _)); (first | (k_unfold; (try dsimp only)) | walk1))
        refine' loop_turn_end ?tF ?tN ?oa ?ob ?hw ?hh ?hm hown hoff' hb' ?M1 ?M2 hlD e
        (case tF => assumption)
        (case tN => assumption)
        (case oa => assumption)
        (case ob => assumption)
        (case hw => rfl)
        (case hh => rfl)
        (case hm => intro z h1 h2 h3; simp [h1, h2, h3])
        (case M1 => assumption)
        (case M2 => assumption))
      (case done =>
        intro wa ho rest' u h tk ok1 ok2 Mwa Mho hoff' hb' F N
        have hc2 := hc1.mono (fun p hp => hb' p (.tail _ hp))
        have hcc2 := hb' _ (.tail _ hcc)
        obtain ⟨wdx, _, _, _, _, _, _, _, _, _, _, _, _, wm1, wm2, _⟩ := id Mwa
        obtain ⟨ydx, _, _, _, _, _, _, _, _, _, _, _, _, ym1, ym2, _⟩ := id Mho
        dsimp only
        repeat ((fail_if_success (with_reducible show wpAny _ _ (exec (Stmt.Assign [Expr.Name (Str.ofString "far") _] _ _) _) _ _ _)); (first | (k_unfold; (try dsimp only)) | walk1))
        rename (_ < (9001 : Int)) => hy91
        revert hy91
        rename (_ < (9001 : Int)) => hx91
        intro hy91
        obtain ⟨fX, fY, ffx, ffy, fa1, fa2, fb1, fb2⟩ := main_facts hst.ok hl6 hx91 hy91 (by assumption) (by assumption)
        have hdet := det_one hst.ok
        repeat ((fail_if_success (with_reducible show wpAny _ _ (exec (Stmt.If _ _ _ _) _) _ _ _)); (first | (k_unfold; (try dsimp only)) | walk1))
        refine' pen_frontK hoff' ?pNu1 ?pPu1 ?pOu1 ?_
        (case pNu1 => k_asm)
        (case pPu1 => repeat' (first | exact Pull.head | (with_reducible refine' Pull.tail ?_) | (with_reducible refine' Pull.app ?_)))
        (case pOu1 =>
          refine' off_five (off_of ?o1u1 ?o2u1) ?_
          (case o1u1 => with_reducible assumption)
          (case o2u1 => k_mem)
          refine' off_cons ?o3u1 ?_
          (case o3u1 => first | omega | k_ne)
          refine' off_pair (off_of ?o4u1 ?o5u1) ?_
          (case o4u1 => with_reducible assumption)
          (case o5u1 => k_mem)
          refine' off_pair (off_of ?o6u1 ?o7u1) ?_
          (case o6u1 => with_reducible assumption)
          (case o7u1 => k_mem)
          exact hoff')
        intro Nf Of
        repeat ((fail_if_success (with_reducible show wpAny _ _ (compareOp CmpOp.NotEq (Value.ref _) (Value.ref _)) _ _ _)); (first | (k_unfold; (try dsimp only)) | walk1))
        (with_reducible show wpAny _ _ (compareOp CmpOp.NotEq (Value.ref _) (Value.ref _)) _ _ _)
        refine' ne_tups ?kNu2 ?kau2 ?kbu2 ?kxu2 ?kyu2 ?kuu2 ?_
        (case kNu2 => k_asm)
        (case kau2 => k_mem)
        (case kbu2 => k_mem)
        (case kxu2 => rfl)
        (case kyu2 => rfl)
        (case kuu2 => units_room)
        repeat ((fail_if_success (with_reducible show wpAny _ _ (eval (Expr.ListComp _ _ _ _) _) _ _ _)); (first | (k_unfold; (try dsimp only)) | walk1))
        refine' comp_tupleF ?kFu3 ?k1u3 ?k2u3 ?k3u3 ?k4u3 ?k5u3 ?k6u3 ?_
        (case kFu3 => k_asm)
        (case k1u3 => rfl)
        (case k2u3 => decide)
        (case k3u3 => rfl)
        (case k4u3 => decide)
        (case k5u3 => rfl)
        (case k6u3 => intro _; rfl)
        repeat ((fail_if_success (with_reducible show SrcT _ _ _ _ _ _ _ _ _ _ _ _ _ _)); (first | (k_unfold; (try dsimp only)) | walk1))
        refine' told_src ?hhu3 ?Fu3 ?Nu3 ?htu3 ?hau3 ?hbu3 ?turnu3 ?finu3
        (case hhu3 => rfl)
        (case Fu3 => k_asm)
        (case Nu3 => k_asm)
        (case htu3 => k_mem)
        (case hau3 => refine' decIn_of ?iau3 ?ibu3; (case iau3 => k_mem); (case ibu3 => k_mem))
        (case hbu3 => refine' decIn_of ?iau3 ?ibu3; (case iau3 => k_mem); (case ibu3 => k_mem))
        (case turnu3 =>
          intro z d I oI C oC D₂ m₂ ys₂ nx₂ h₂ tk₂ E₂ hz ht hC hx F₂ N₂ off ne
          obtain ⟨ddx, _, _, _, _, dm1, dm2⟩ := id hz
          repeat ((fail_if_success (with_reducible show LCg.CompEnd _ _ _ _ _ _ _ _ _ _ _ _ _ _)); (first | (k_unfold; (try dsimp only)) | walk1))
          exact told_end (by assumption) (by assumption) (by assumption) off (.tail _ ht))
        intro g T1 T2 u1 u2 u3 v1 v2 v3
        unfold LCg.FinE
        intro D₂ h₂ tk₂ F₂ N₂ o₂
        dsimp only
        repeat ((fail_if_success (with_reducible show wpAny _ _ (compareOp CmpOp.NotEq (Value.ref _) (Value.ref _)) _ _ _)); (first | (k_unfold; (try dsimp only)) | walk1))
        (with_reducible show wpAny _ _ (compareOp CmpOp.NotEq (Value.ref _) (Value.ref _)) _ _ _)
        refine' ne_lsts ?kNu4 ?kau4 ?kbu4 ?kcu4 ?kdu4 ?keu4 ?kfu4 ?kxu4 ?kyu4 ?kzu4 ?kwu4 ?kuu4 ?_
        (case kNu4 => k_asm)
        (case kau4 => k_mem)
        (case kbu4 => k_mem)
        (case kcu4 => k_mem)
        (case kdu4 => k_mem)
        (case keu4 => k_mem)
        (case kfu4 => k_mem)
        (case kxu4 => rfl)
        (case kyu4 => rfl)
        (case kzu4 => rfl)
        (case kwu4 => rfl)
        (case kuu4 => units_room)
        repeat ((fail_if_success (with_reducible show wpAny _ _ (eval (Expr.ListComp _ _ _ _) _) _ _ _)); (first | (k_unfold; (try dsimp only)) | walk1))
        refine' comp_tupleF ?kFu5 ?k1u5 ?k2u5 ?k3u5 ?k4u5 ?k5u5 ?k6u5 ?_
        (case kFu5 => k_asm)
        (case k1u5 => rfl)
        (case k2u5 => decide)
        (case k3u5 => rfl)
        (case k4u5 => decide)
        (case k5u5 => rfl)
        (case k6u5 => intro _; rfl)
        repeat ((fail_if_success (with_reducible show SrcT _ _ _ _ _ _ _ _ _ _ _ _ _ _)); (first | (k_unfold; (try dsimp only)) | walk1))
        refine' told_src ?hhu5 ?Fu5 ?Nu5 ?htu5 ?hau5 ?hbu5 ?turnu5 ?finu5
        (case hhu5 => rfl)
        (case Fu5 => k_asm)
        (case Nu5 => k_asm)
        (case htu5 => k_mem)
        (case hau5 => refine' decIn_of ?iau5 ?ibu5; (case iau5 => k_mem); (case ibu5 => k_mem))
        (case hbu5 => refine' decIn_of ?iau5 ?ibu5; (case iau5 => k_mem); (case ibu5 => k_mem))
        (case turnu5 =>
          intro z d I oI C oC D₂ m₂ ys₂ nx₂ h₂ tk₂ E₂ hz ht hC hx F₂ N₂ off ne
          obtain ⟨ddx, _, _, _, _, dm1, dm2⟩ := id hz
          repeat ((fail_if_success (with_reducible show LCg.CompEnd _ _ _ _ _ _ _ _ _ _ _ _ _ _)); (first | (k_unfold; (try dsimp only)) | walk1))
          exact told_end (by assumption) (by assumption) (by assumption) off (.tail _ ht))
        intro g T1 T2 u1 u2 u3 v1 v2 v3
        unfold LCg.FinE
        intro D₂ h₂ tk₂ F₂ N₂ o₂
        dsimp only
        repeat ((fail_if_success (with_reducible show wpAny _ _ (compareOp CmpOp.NotEq (Value.ref _) (Value.ref _)) _ _ _)); (first | (k_unfold; (try dsimp only)) | walk1))
        (with_reducible show wpAny _ _ (compareOp CmpOp.NotEq (Value.ref _) (Value.ref _)) _ _ _)
        refine' ne_lsts ?kNu6 ?kau6 ?kbu6 ?kcu6 ?kdu6 ?keu6 ?kfu6 ?kxu6 ?kyu6 ?kzu6 ?kwu6 ?kuu6 ?_
        (case kNu6 => k_asm)
        (case kau6 => k_mem)
        (case kbu6 => k_mem)
        (case kcu6 => k_mem)
        (case kdu6 => k_mem)
        (case keu6 => k_mem)
        (case kfu6 => k_mem)
        (case kxu6 => rfl)
        (case kyu6 => rfl)
        (case kzu6 => rfl)
        (case kwu6 => rfl)
        (case kuu6 => units_room)
        repeat ((fail_if_success (with_reducible show wpAny _ _ (exec (Stmt.Assign [Expr.Name (Str.ofString "places") _] _ _) _) _ _ _)); (first | (k_unfold; (try dsimp only)) | walk1))
        refine' back_toK Of ?bNu7 ?bpu7 ?bsu7 ?_
        (case bNu7 => k_asm)
        (case bpu7 => k_mem)
        (case bsu7 => repeat' (first | (with_reducible exact List.forall_mem_nil _) | (with_reducible refine List.forall_mem_cons.mpr ⟨?_, ?_⟩) | (with_reducible exact (fun _ h => h)) | (with_reducible refine sub_cons ?_) | (with_reducible refine sub_app ?_) | k_mem))
        intro Nb
        repeat ((fail_if_success (with_reducible show wpAny _ _ (eval (Expr.ListComp _ _ _ _) _) _ _ _)); (first | (k_unfold; (try dsimp only)) | walk1))
        refine' comp_tupleF ?kFu8 ?k1u8 ?k2u8 ?k3u8 ?k4u8 ?k5u8 ?k6u8 ?_
        (case kFu8 => k_asm)
        (case k1u8 => rfl)
        (case k2u8 => decide)
        (case k3u8 => rfl)
        (case k4u8 => decide)
        (case k5u8 => rfl)
        (case k6u8 => intro _; rfl)
        repeat ((fail_if_success (with_reducible show SrcT _ _ _ _ _ _ _ _ _ _ _ _ _ _)); (first | (k_unfold; (try dsimp only)) | walk1))
        refine' told_src ?hhu8 ?Fu8 ?Nu8 ?htu8 ?hau8 ?hbu8 ?turnu8 ?finu8
        (case hhu8 => rfl)
        (case Fu8 => k_asm)
        (case Nu8 => k_asm)
        (case htu8 => k_mem)
        (case hau8 => refine' decIn_of ?iau8 ?ibu8; (case iau8 => k_mem); (case ibu8 => k_mem))
        (case hbu8 => refine' decIn_of ?iau8 ?ibu8; (case iau8 => k_mem); (case ibu8 => k_mem))
        (case turnu8 =>
          intro z d I oI C oC D₂ m₂ ys₂ nx₂ h₂ tk₂ E₂ hz ht hC hx F₂ N₂ off ne
          obtain ⟨ddx, _, _, _, _, dm1, dm2⟩ := id hz
          repeat ((fail_if_success (with_reducible show LCg.CompEnd _ _ _ _ _ _ _ _ _ _ _ _ _ _)); (first | (k_unfold; (try dsimp only)) | walk1))
          exact told_end (by assumption) (by assumption) (by assumption) off (.tail _ ht))
        intro g T1 T2 u1 u2 u3 v1 v2 v3
        unfold LCg.FinE
        intro D₂ h₂ tk₂ F₂ N₂ o₂
        dsimp only
        repeat ((fail_if_success (with_reducible show wpAny _ _ (compareOp CmpOp.Eq (Value.ref _) (Value.ref _)) _ _ _)); (first | (k_unfold; (try dsimp only)) | walk1))
        (with_reducible show wpAny _ _ (compareOp CmpOp.Eq (Value.ref _) (Value.ref _)) _ _ _)
        refine' eq_lsts ?kNu9 ?kau9 ?kbu9 ?kcu9 ?kdu9 ?keu9 ?kfu9 ?kxu9 ?kyu9 ?kzu9 ?kwu9 ?kuu9 ?_
        (case kNu9 => k_asm)
        (case kau9 => k_mem)
        (case kbu9 => k_mem)
        (case kcu9 => k_mem)
        (case kdu9 => k_mem)
        (case keu9 => k_mem)
        (case kfu9 => k_mem)
        (case kxu9 => rfl)
        (case kyu9 => rfl)
        (case kzu9 => rfl)
        (case kwu9 => rfl)
        (case kuu9 => units_room)
        k_steps))))
end Mine
namespace Mine
/-! The head (top_) would lay an equation for each great table of the heap, some 21 MB; where the twin's name is taken it leaves the table as it stands. -/
def top_.tw2636368072693591570 : Unit := ()
def top_.tw11683224371860834753 : Unit := ()
def top_.tw15057300917222773279 : Unit := ()
def top_.tw1971497726447565930 : Unit := ()
def top_.tw17285471021227294977 : Unit := ()
def top_.tw11299340149091211322 : Unit := ()
def top_.tw11463069125246841429 : Unit := ()
def top_.tw8111737877428251170 : Unit := ()
def top_.tw6504282300569913283 : Unit := ()
set_option maxHeartbeats 8000000 in
set_option Elab.async true in
theorem top_ : PySem.Challenge.rw_og0156_01.Holds := by
  w_on
  o_law
  k_head
  (case hw => w_witness2)
  exact main_
end Mine
theorem PySem.Challenge.cw_og0156_01_holds : PySem.Challenge.rw_og0156_01.Holds :=
  Mine.top_
