import PyProof.Rows.All
import Wide.All
import OpenK.AllK
import Wide.FinOn
import Lean
import PySem.Challenge.RW_no0231_01
open PySem PySem.W PyProof.Rows
set_option Elab.async false
set_option rowWalk.seconds 0
set_option maxRecDepth 100000
set_option maxHeartbeats 0
namespace Mine
set_option synthInstance.maxSize 1 in
open_top hd for PySem.Challenge.rw_no0231_01
local macro_rules | `(tactic| walk_at $s:str) => `(tactic| k_extra $s)
local macro_rules | `(tactic| k_mem) => `(tactic| k_extra "m_kmem")
local macro_rules | `(tactic| k_ne) => `(tactic| k_extra "m_kne")
local macro_rules | `(tactic| k_upd) => `(tactic| k_extra "m_kupd")
local macro_rules | `(tactic| lcg_off) => `(tactic| k_extra "m_klcgoff")
section
abbrev Led := List (Addr × Obj)
theorem reg_1 : True := by
  k_with_none
  exact True.intro
def Ret (Post : Value → Led → Prop) (h₀ : Heap) (L : Addr) (m : Str → Option Value) (s : Shared) (Q : Value → Shared → Prop) : Prop :=
  ∀ v news' h' tk', Post v news' → Fr h₀ L h' m → News h₀ L h' news' → Q v { s with heap := h', toks := tk' }
/-- the contract of the def at f: called with vs over the ledger news it ends in a value and a ledger that Post takes; d: the frames it wants -/
def Spec (w : World) (d : Nat) (f : Addr) (news : Led) (vs : List Value) (Post : Value → Led → Prop) : Prop :=
  ∀ (loose : List Str) (mean : ExcName → Option Value) (mg mb : Str → Option Value) (dp un : Nat) (gd : Option (List Code)) (cn : Str) (cs : Scope) (a : Addr) (ccd : Value) (cl : List (Str × Addr)) (outer : List Env) (A₀ : Around) (base h₀ : Heap) (L : Addr) (m : Str → Option Value) (s : Shared) (Q E : Value → Shared → Prop),
    Below A₀ base outer h₀ → Fr h₀ L s.heap m → (hd.heap_39 w.params).In h₀ → News h₀ L s.heap news → Top hd.view_39 loose mean mg mb h₀ → cs.kind = .function →
    dp + d < recursionLimit → un + 8 * d < cLine → Ret Post h₀ L m s Q →
    wpAny (model PySem.Challenge.pw_no0231_01 w) (ktrTop dp un gd cn cs L a ccd cl outer) (call (.ref f) vs) Q E s
theorem Spec.use {w : World} {d : Nat} {f : Addr} {news : Led} {vs : List Value} {Post : Value → Led → Prop} (S : Spec w d f news vs Post)
  {loose : List Str} {mean : ExcName → Option Value} {mg mb : Str → Option Value} {dp un : Nat} {gd : Option (List Code)} {cn : Str} {cs : Scope} {a : Addr} {ccd : Value} {cl : List (Str × Addr)} {outer : List Env} {A₀ : Around} {base h₀ : Heap} {L : Addr} {m : Str → Option Value} {s : Shared} {Q E : Value → Shared → Prop}
  (B : Below A₀ base outer h₀) (F : Fr h₀ L s.heap m) (X : (hd.heap_39 w.params).In h₀) (N : News h₀ L s.heap news) (T : Top hd.view_39 loose mean mg mb h₀) (hk : cs.kind = .function)
  (hd : dp + d < recursionLimit) (hu : un + 8 * d < cLine)
  (ret : ∀ v news' h' tk', Post v news' → Fr h₀ L h' m → News h₀ L h' news' → Q v { s with heap := h', toks := tk' }) :
  wpAny (model PySem.Challenge.pw_no0231_01 w) (ktrTop dp un gd cn cs L a ccd cl outer) (call (.ref f) vs) Q E s := S _ _ _ _ _ _ _ _ _ _ _ _ _ _ _ _ _ _ _ _ _ B F X N T hk hd hu ret
abbrev PV (news : Led) (R : Tok → Value) (F : Prop) : Value → Led → Prop := fun v nw => nw = news ∧ F ∧ ∃ t, v = R t
abbrev PI (news : Led) (x : Int) (F : Prop) : Value → Led → Prop := PV news (fun t => .int x t) F
abbrev PS (news : Led) (x : Str) (F : Prop) : Value → Led → Prop := PV news (fun t => .str x t) F
abbrev PB (news : Led) (x : Bool) (F : Prop) : Value → Led → Prop := PV news (fun _ => .bool x) F
section
variable {news : Led} {h₀ : Heap} {L : Addr} {m : Str → Option Value} {s : Shared} {Q : Value → Shared → Prop} {h' : Heap} {tk' : Nat} {G : Prop}
theorem retI {x y : Int} {t : Tok} (hr : Ret (PI news x G) h₀ L m s Q) (e : y = x) (g : G) (F : Fr h₀ L h' m) (N : News h₀ L h' news) : Q (.int y t) { s with heap := h', toks := tk' } := hr _ _ _ _ ⟨rfl, g, _, congrArg (fun z => Value.int z _) e⟩ F N
theorem retS {x y : Str} {t : Tok} (hr : Ret (PS news x G) h₀ L m s Q) (e : y = x) (g : G) (F : Fr h₀ L h' m) (N : News h₀ L h' news) : Q (.str y t) { s with heap := h', toks := tk' } := hr _ _ _ _ ⟨rfl, g, _, congrArg (fun z => Value.str z _) e⟩ F N
theorem retB {x y : Bool} (hr : Ret (PB news x G) h₀ L m s Q) (e : y = x) (g : G) (F : Fr h₀ L h' m) (N : News h₀ L h' news) : Q (.bool y) { s with heap := h', toks := tk' } := hr _ _ _ _ ⟨rfl, g, 0, congrArg (fun z => Value.bool z) e⟩ F N
end
abbrev tup (vs : List Value) : Obj := { cls := .type "tuple", data := .seq vs.toArray 0 }
abbrev PT (news : Led) (R : Tok → Tok → List Value) (F : Prop) : Value → Led → Prop := fun v nw => F ∧ ∃ t ta tb, v = .ref t ∧ nw = (t, tup (R ta tb)) :: news ∧ ∀ p ∈ news, p.1 < t
/-- the contract used, where the def gives back a value of its own and the ledger stays: nothing is left to take apart at the call -/
theorem Spec.useV {w : World} {d : Nat} {f : Addr} {news : Led} {vs : List Value} {R : Tok → Value} {G : Prop} (S : Spec w d f news vs (PV news R G))
  {loose : List Str} {mean : ExcName → Option Value} {mg mb : Str → Option Value} {dp un : Nat} {gd : Option (List Code)} {cn : Str} {cs : Scope} {a : Addr} {ccd : Value} {cl : List (Str × Addr)} {outer : List Env} {A₀ : Around} {base h₀ : Heap} {L : Addr} {m : Str → Option Value} {s : Shared} {Q E : Value → Shared → Prop}
  (B : Below A₀ base outer h₀) (F : Fr h₀ L s.heap m) (X : (hd.heap_39 w.params).In h₀) (N : News h₀ L s.heap news) (T : Top hd.view_39 loose mean mg mb h₀) (hk : cs.kind = .function)
  (hd : dp + d < recursionLimit) (hu : un + 8 * d < cLine)
  (ret : ∀ t h' tk', G → Fr h₀ L h' m → News h₀ L h' news → Q (R t) { s with heap := h', toks := tk' }) :
  wpAny (model PySem.Challenge.pw_no0231_01 w) (ktrTop dp un gd cn cs L a ccd cl outer) (call (.ref f) vs) Q E s :=
  S.use B F X N T hk hd hu (fun v nw h' tk' hP F9 N9 => by
    obtain ⟨e1, ef, t, e2⟩ := hP
    subst e1; subst e2
    exact ret t h' tk' ef F9 N9)
/-- the same, where the def gives back a new tuple -/
theorem Spec.useT {w : World} {d : Nat} {f : Addr} {news : Led} {vs : List Value} {R : Tok → Tok → List Value} {G : Prop} (S : Spec w d f news vs (PT news R G))
  {loose : List Str} {mean : ExcName → Option Value} {mg mb : Str → Option Value} {dp un : Nat} {gd : Option (List Code)} {cn : Str} {cs : Scope} {a : Addr} {ccd : Value} {cl : List (Str × Addr)} {outer : List Env} {A₀ : Around} {base h₀ : Heap} {L : Addr} {m : Str → Option Value} {s : Shared} {Q E : Value → Shared → Prop}
  (B : Below A₀ base outer h₀) (F : Fr h₀ L s.heap m) (X : (hd.heap_39 w.params).In h₀) (N : News h₀ L s.heap news) (T : Top hd.view_39 loose mean mg mb h₀) (hk : cs.kind = .function)
  (hd : dp + d < recursionLimit) (hu : un + 8 * d < cLine)
  (ret : ∀ t ta tb h' tk', G → Fr h₀ L h' m → News h₀ L h' ((t, tup (R ta tb)) :: news) → (∀ p ∈ news, p.1 < t) → Q (.ref t) { s with heap := h', toks := tk' }) :
  wpAny (model PySem.Challenge.pw_no0231_01 w) (ktrTop dp un gd cn cs L a ccd cl outer) (call (.ref f) vs) Q E s :=
  S.use B F X N T hk hd hu (fun v nw h' tk' hP F9 N9 => by
    obtain ⟨ef, t, ta, tb, e1, e2, l1⟩ := hP
    subst e1; subst e2
    exact ret t ta tb h' tk' ef F9 N9 l1)
section
variable {news : Led} {h₀ : Heap} {L : Addr} {m : Str → Option Value} {s : Shared} {Q : Value → Shared → Prop} {h' : Heap} {tk' : Nat} {G : Prop} {t : Addr} {ta tb : Tok}
theorem retSI {x D : Str} {y P : Int} (hr : Ret (PT news (fun ta tb => [.str D ta, .int P tb]) G) h₀ L m s Q) (e1 : x = D) (e2 : y = P) (g : G) (F : Fr h₀ L h' m) (N : News h₀ L h' ((t, tup [.str x ta, .int y tb]) :: news)) (l : ∀ p ∈ news, p.1 < t) : Q (.ref t) { s with heap := h', toks := tk' } := by
  subst e1; subst e2; exact hr _ _ _ _ ⟨g, t, ta, tb, rfl, rfl, l⟩ F N
theorem retII {x D : Int} {y P : Int} (hr : Ret (PT news (fun ta tb => [.int D ta, .int P tb]) G) h₀ L m s Q) (e1 : x = D) (e2 : y = P) (g : G) (F : Fr h₀ L h' m) (N : News h₀ L h' ((t, tup [.int x ta, .int y tb]) :: news)) (l : ∀ p ∈ news, p.1 < t) : Q (.ref t) { s with heap := h', toks := tk' } := by
  subst e1; subst e2; exact hr _ _ _ _ ⟨g, t, ta, tb, rfl, rfl, l⟩ F N
end

end
local macro_rules | `(tactic| walk_at "m_retI") => `(tactic| ((with_reducible rename Ret _ _ _ _ _ _ => hr); refine retI hr ?e ?g ?f ?n; (case f => k_asm); (case n => k_extra "m_news")))
local macro_rules | `(tactic| walk_at "m_retS") => `(tactic| ((with_reducible rename Ret _ _ _ _ _ _ => hr); refine retS hr ?e ?g ?f ?n; (case f => k_asm); (case n => k_extra "m_news")))
local macro_rules | `(tactic| walk_at "m_retB") => `(tactic| ((with_reducible rename Ret _ _ _ _ _ _ => hr); refine retB hr ?e ?g ?f ?n; (case f => k_asm); (case n => k_extra "m_news")))
local macro_rules | `(tactic| walk_at "m_retSI") => `(tactic| ((with_reducible rename Ret _ _ _ _ _ _ => hr); refine' retSI hr ?e1 ?e2 ?g ?f ?n ?l; (case f => k_asm); (case n => k_extra "m_news"); (case l => k_asm)))
local macro_rules | `(tactic| walk_at "m_retII") => `(tactic| ((with_reducible rename Ret _ _ _ _ _ _ => hr); refine' retII hr ?e1 ?e2 ?g ?f ?n ?l; (case f => k_asm); (case n => k_extra "m_news"); (case l => k_asm)))
section
theorem reg_2 : True := by
  k_with_none
  (k_with "m_mem" => first | assumption | exact List.Mem.head _ | (refine' List.Mem.tail _ ?_; k_extra "m_mem"))
  (k_with "m_kmem" => assumption)
  (k_with "m_fill" => ((have mfill : PySem.Challenge.rw_no0231_01 = PySem.Challenge.rw_no0231_01 ∧ _root_.Mine.hd.heap_39 = _root_.Mine.hd.heap_39 := by (k_fill; exact ⟨rfl, rfl⟩)); clear mfill))
  (k_with "m_start" => (k_extra "m_fill"; unfold Spec; intros; refine wpAny_call ?_; k_dflt cell_enter))
  (k_with "m_news" => first | with_reducible assumption | (refine cb_drop (by with_reducible assumption) (fun p hp => .tail _ hp)) | (refine cb_drop (by with_reducible assumption) (fun p hp => .tail _ (.tail _ hp))) | (refine cb_drop (by with_reducible assumption) (fun p hp => .tail _ (.tail _ (.tail _ hp)))) | k_asm)
  (k_with "m_ifs" => (repeat' split) <;> first | rfl | (exfalso; first | contradiction | omega | simp_all))
  (k_with "m_after" => (intro t h' tk' ef F9 N9; (try dsimp only); (try k_fold)))
  (k_with "m_afterT" => (intro t ta tb h' tk' ef F9 N9 l1; (try k_lt l1); (try dsimp only); (try k_sweep); (try k_fold)))
  exact True.intro
theorem pow10_cast (k : Nat) : ((10 ^ k : Nat) : Int) = (10 : Int) ^ k := by
  induction k with
  | zero => rfl
  | succ n ih => rw [Nat.pow_succ, Int.pow_succ, ← ih]; omega
theorem pow10_pos (k : Nat) : (0 : Int) < 10 ^ k := by
  rw [← pow10_cast]; have : 0 < 10 ^ k := Nat.pow_pos (by decide); omega
theorem pow10_le {k j : Nat} (h : k ≤ j) : (10 : Int) ^ k ≤ 10 ^ j := by
  rw [← pow10_cast, ← pow10_cast]
  have : 10 ^ k ≤ 10 ^ j := Nat.pow_le_pow_right (by decide) h
  omega
def scaled (n p : Int) : Int := if 0 ≤ p then n * 10 ^ p.toNat else (2 * n + 10 ^ (-p).toNat).fdiv (2 * 10 ^ (-p).toNat)
theorem two_pow_log {k : Nat} (h : k ≤ 60) : (2 * 10 ^ k : Int).natAbs.log2 < 9000 := by
  have h1 := pow10_le h
  have h2 := pow10_pos k
  have h3 : (2 * 10 ^ k : Int).natAbs < 2 ^ 9000 := Nat.lt_of_le_of_lt (show (2 * 10 ^ k : Int).natAbs ≤ 2 * 10 ^ 60 by omega) (by decide +kernel)
  exact (Nat.log2_lt (by omega)).mpr h3
theorem two_pow_ne {k : Nat} : (2 * 10 ^ k : Int) ≠ 0 := by have := pow10_pos k; omega
theorem scaled_nonneg {n p : Int} (h : 0 ≤ n) : 0 ≤ scaled n p := by
  unfold scaled
  split
  · exact Int.mul_nonneg h (Int.le_of_lt (pow10_pos _))
  · have h2 := pow10_pos (-p).toNat
    rw [Int.fdiv_eq_ediv_of_nonneg _ (by omega)]
    exact Int.ediv_nonneg (by omega) (by omega)
theorem scaled_lt {n p : Int} (h : 0 ≤ n) (h2 : n < 10 ^ 11) (hp : p ≤ 40) : scaled n p < 10 ^ 51 := by
  unfold scaled
  split
  · have h3 : (10 : Int) ^ p.toNat ≤ 10 ^ 40 := pow10_le (by omega)
    have h4 := pow10_pos p.toNat
    calc n * 10 ^ p.toNat ≤ n * 10 ^ 40 := Int.mul_le_mul_of_nonneg_left h3 h
      _ < 10 ^ 51 := by omega
  · have h3 := pow10_pos (-p).toNat
    rw [Int.fdiv_eq_ediv_of_nonneg _ (by omega)]
    apply Int.ediv_lt_of_lt_mul (by omega)
    have : (10 : Int) ^ 51 * (2 * 10 ^ (-p).toNat) = (2 * 10 ^ 51) * 10 ^ (-p).toNat := by
      generalize (10 : Int) ^ (-p).toNat = x; omega
    rw [this]
    omega
def strOf (a : Int) : Str := Str.ofString (toString a)
theorem strOf_len {a : Int} (h0 : 0 ≤ a) (ha : a < 10 ^ 60) : 1 ≤ (strOf a).length ∧ (strOf a).length ≤ 61 := by
  unfold strOf
  constructor
  · obtain ⟨n, rfl⟩ := Int.eq_ofNat_of_zero_le h0
    rw [PySem.ofString_length]
    show 1 ≤ (Nat.repr n).length
    have := toDigits_len_ge 10 n
    simpa [Nat.repr] using this
  · rw [PySem.ofString_length]
    exact PySem.int_text_length_le10 (by decide) (by omega)
theorem log2_small {a : Int} (h0 : 0 ≤ a) (ha : a < 10 ^ 60) : a.natAbs.log2 < 1920 := by
  by_cases h : a.natAbs = 0
  · rw [h]; decide +kernel
  · exact (Nat.log2_lt h).mpr (Nat.lt_of_lt_of_le (show a.natAbs < 10 ^ 60 by omega) (by decide +kernel))
section
variable {prog : Program} {w : World} {A : Around} {E : Value → Shared → Prop} {s : Shared}
theorem str_int {a : Int} {t : Tok} {Q : Value → Shared → Prop} (h0 : 0 ≤ a) (ha : a < 10 ^ 60) (h : 1 ≤ (strOf a).length ∧ (strOf a).length ≤ 61 → Q (.str (strOf a) s.toks) { s with toks := s.toks + 1 }) :
    wpAny (model prog w) A (call (.type "str") [.int a t]) Q E s := P.str_of_int (log2_small h0 ha) (h (strOf_len h0 ha))
end
theorem lenA : (Str.ofString "0.").length = 2 := by decide +kernel
theorem lenB : (Str.ofString ".").length = 1 := by decide +kernel
theorem lenC : (Str.ofString "0").length = 1 := by decide +kernel
theorem lenD : (Str.ofString "").length = 0 := by decide +kernel
theorem lenE : (Str.ofString "-").length = 1 := by decide +kernel
theorem lenF : (Str.ofString "+").length = 1 := by decide +kernel
theorem lenG : (Str.ofString " ").length = 1 := by decide +kernel
theorem lenH : (Str.ofString "*").length = 1 := by decide +kernel
end
section
section
theorem reg_3 : True := by
  k_with_none
  (k_with "m_mem" => first | assumption | exact List.Mem.head _ | (refine' List.Mem.tail _ ?_; k_extra "m_mem"))
  (k_with "m_kmem" => assumption)
  (k_with "m_fill" => ((have mfill : PySem.Challenge.rw_no0231_01 = PySem.Challenge.rw_no0231_01 ∧ _root_.Mine.hd.heap_39 = _root_.Mine.hd.heap_39 := by (k_fill; exact ⟨rfl, rfl⟩)); clear mfill))
  (k_with "m_start" => (k_extra "m_fill"; unfold Spec; intros; refine wpAny_call ?_; k_dflt cell_enter))
  (k_with "m_news" => first | with_reducible assumption | (refine cb_drop (by with_reducible assumption) (fun p hp => .tail _ hp)) | (refine cb_drop (by with_reducible assumption) (fun p hp => .tail _ (.tail _ hp))) | (refine cb_drop (by with_reducible assumption) (fun p hp => .tail _ (.tail _ (.tail _ hp)))) | k_asm)
  (k_with "m_ifs" => (repeat' split) <;> first | rfl | (exfalso; first | contradiction | omega | simp_all))
  (k_with "m_after" => (intro t h' tk' ef F9 N9; (try dsimp only); (try k_fold)))
  (k_with "m_afterT" => (intro t ta tb h' tk' ef F9 N9 l1; (try k_lt l1); (try dsimp only); (try k_sweep); (try k_fold)))
  (k_with "m_len" => first | assumption | omega | ((try simp only [Str.length_append, lenA, lenB, lenC, lenD, lenE, lenF, lenG, lenH] at *); omega) | size_fits | l_fact)
  (k_with "binaryOp FloorDiv int int" => (refine floordiv_int ?q10a ?_ (Or.inl (PyProof.noPylong_of_log2 (two_pow_log ?q10b))); (case q10a => exact two_pow_ne); (case q10b => omega)))
  exact True.intro
theorem scaled_spec {w : World} (news : Led) (n p : Int) (t1 t2 : Tok) (h1 : 0 ≤ n) (h2 : n < 10 ^ 11) (h3 : -60 ≤ p) (h4 : p ≤ 40) :
    Spec w 1 74 news [.int n t1, .int p t2] (PI news (scaled n p) (0 ≤ scaled n p ∧ scaled n p < 10 ^ 51)) := by
  k_extra "m_start"
  k_steps
  all_goals (walk_at "m_retI"; (case g => exact ⟨scaled_nonneg h1, scaled_lt h1 h2 h4⟩); unfold scaled; simp [*])
end
def field (x : Str) (n : Int) : Str := if n < x.length then Txt.mul (Str.ofString "*") n else Txt.mul (Str.ofString " ") (n - x.length) ++ x
theorem field_len {x : Str} {n : Int} (h : 0 ≤ n) : ((field x n).length : Int) = n := by
  unfold field
  split
  · rw [len_mul, lenH]; simp; omega
  · rw [Str.length_append, Int.natCast_add, len_mul, lenG]
    have : ¬ (n - (x.length : Int) < 0) := by omega
    simp only [this, decide_false, Bool.false_eq_true, if_false]; omega
theorem field_spec {w : World} (news : Led) (x : Str) (n : Int) (t1 t2 : Tok) (h1 : x.length ≤ 2000) (h3 : 0 ≤ n) (h4 : n ≤ 44) :
    Spec w 1 60 news [.str x t1, .int n t2] (PS news (field x n) ((field x n).length = n)) := by
  k_extra "m_start"
  k_steps
  all_goals (walk_at "m_retS"; (case g => exact field_len h3); unfold field; simp [*])
def sign_text (x y : Bool) : Str := if x then Str.ofString "-" else if y then Str.ofString "+" else Str.ofString ""
theorem sign_len (x y : Bool) : (sign_text x y).length ≤ 1 := by cases x <;> cases y <;> decide +kernel
theorem sign_spec {w : World} (news : Led) (x y : Bool) :
    Spec w 1 67 news [.bool x, .bool y] (PS news (sign_text x y) ((sign_text x y).length ≤ 1)) := by
  k_extra "m_start"
  k_steps
  all_goals (walk_at "m_retS"; (case g => exact sign_len x y); unfold sign_text; simp [*])
section
theorem reg_4 : True := by
  (k_with "call_field" => ((with_reducible show wpAny _ _ (call (Value.ref 60) _) _ _ _); k_dflt (refine' Spec.useV (field_spec _ _ _ _ _ ?q11h1 ?q11h2 ?q11h3) ?q11B ?q11F ?q11X ?q11N ?q11T ?q11k ?q11d ?q11u ?_; (case q11B => k_asm); (case q11F => k_asm); (case q11X => k_asm); (case q11N => k_asm); (case q11T => k_asm); (case q11k => first | exact rfl | assumption); (case q11d => ktr_room); (case q11u => ktr_units); (case q11h1 => k_extra "m_len"); (case q11h2 => k_extra "m_len"); (case q11h3 => k_extra "m_len"); k_extra "m_after")))
  (k_with "call ref" => k_extra "call_field")
  exact True.intro
def point_field (x y z : Str) (n : Int) : Str :=
  if (y == Str.ofString "") = true then
    if (z == Str.ofString "") = true then field (x ++ Str.ofString "0" ++ Str.ofString "." ++ z) n
    else if ((x.length + (Str.ofString "0.").length + z.length : Nat) : Int) ≤ n then field (x ++ Str.ofString "0." ++ z) n
    else field (x ++ y ++ Str.ofString "." ++ z) n
  else field (x ++ y ++ Str.ofString "." ++ z) n
theorem point_len {x y z : Str} {n : Int} (h : 0 ≤ n) : ((point_field x y z n).length : Int) = n := by
  unfold point_field
  repeat' split
  all_goals exact field_len h
theorem point_spec {w : World} (news : Led) (x y z : Str) (n : Int) (t1 t2 t3 t4 : Tok) (hx : x.length ≤ 10) (hy : y.length ≤ 500) (hz : z.length ≤ 500) (h3 : 0 ≤ n) (h4 : n ≤ 44) :
    Spec w 2 81 news [.str x t1, .str y t2, .str z t3, .int n t4] (PS news (point_field x y z n) ((point_field x y z n).length = n)) := by
  k_extra "m_start"
  k_steps
  all_goals (walk_at "m_retS"; (case g => exact point_len h3); unfold point_field; k_extra "m_ifs")
end
end
section
theorem reg_5 : True := by
  k_with_none
  (k_with "m_mem" => first | assumption | exact List.Mem.head _ | (refine' List.Mem.tail _ ?_; k_extra "m_mem"))
  (k_with "m_kmem" => assumption)
  (k_with "m_fill" => ((have mfill : PySem.Challenge.rw_no0231_01 = PySem.Challenge.rw_no0231_01 ∧ _root_.Mine.hd.heap_39 = _root_.Mine.hd.heap_39 := by (k_fill; exact ⟨rfl, rfl⟩)); clear mfill))
  (k_with "m_start" => (k_extra "m_fill"; unfold Spec; intros; refine wpAny_call ?_; k_dflt cell_enter))
  (k_with "m_news" => first | with_reducible assumption | (refine cb_drop (by with_reducible assumption) (fun p hp => .tail _ hp)) | (refine cb_drop (by with_reducible assumption) (fun p hp => .tail _ (.tail _ hp))) | (refine cb_drop (by with_reducible assumption) (fun p hp => .tail _ (.tail _ (.tail _ hp)))) | k_asm)
  (k_with "m_ifs" => (repeat' split) <;> first | rfl | (exfalso; first | contradiction | omega | simp_all))
  (k_with "m_after" => (intro t h' tk' ef F9 N9; (try dsimp only); (try k_fold)))
  (k_with "m_afterT" => (intro t ta tb h' tk' ef F9 N9 l1; (try k_lt l1); (try dsimp only); (try k_sweep); (try k_fold)))
  (k_with "m_len" => first | assumption | omega | ((try simp only [Str.length_append, lenA, lenB, lenC, lenD, lenE, lenF, lenG, lenH] at *); omega) | size_fits | l_fact)
  (k_with "call_field" => ((with_reducible show wpAny _ _ (call (Value.ref 60) _) _ _ _); k_dflt (refine' Spec.useV (field_spec _ _ _ _ _ ?q11h1 ?q11h2 ?q11h3) ?q11B ?q11F ?q11X ?q11N ?q11T ?q11k ?q11d ?q11u ?_; (case q11B => k_asm); (case q11F => k_asm); (case q11X => k_asm); (case q11N => k_asm); (case q11T => k_asm); (case q11k => first | exact rfl | assumption); (case q11d => ktr_room); (case q11u => ktr_units); (case q11h1 => k_extra "m_len"); (case q11h2 => k_extra "m_len"); (case q11h3 => k_extra "m_len"); k_extra "m_after")))
  (k_with "call_scaled" => ((with_reducible show wpAny _ _ (call (Value.ref 74) _) _ _ _); k_dflt (refine' Spec.useV (scaled_spec _ _ _ _ _ ?q13h1 ?q13h2 ?q13h3 ?q13h4) ?q13B ?q13F ?q13X ?q13N ?q13T ?q13k ?q13d ?q13u ?_; (case q13B => k_asm); (case q13F => k_asm); (case q13X => k_asm); (case q13N => k_asm); (case q13T => k_asm); (case q13k => first | exact rfl | assumption); (case q13d => ktr_room); (case q13u => ktr_units); (case q13h1 => k_extra "m_len"); (case q13h2 => k_extra "m_len"); (case q13h3 => k_extra "m_len"); (case q13h4 => k_extra "m_len"); k_extra "m_after")))
  (k_with "call_sign" => ((with_reducible show wpAny _ _ (call (Value.ref 67) _) _ _ _); k_dflt (refine' Spec.useV (sign_spec _ _ _) ?q14B ?q14F ?q14X ?q14N ?q14T ?q14k ?q14d ?q14u ?_; (case q14B => k_asm); (case q14F => k_asm); (case q14X => k_asm); (case q14N => k_asm); (case q14T => k_asm); (case q14k => first | exact rfl | assumption); (case q14d => ktr_room); (case q14u => ktr_units); k_extra "m_after")))
  (k_with "call_point" => ((with_reducible show wpAny _ _ (call (Value.ref 81) _) _ _ _); k_dflt (refine' Spec.useV (point_spec _ _ _ _ _ _ _ _ _ ?q15h1 ?q15h2 ?q15h3 ?q15h4 ?q15h5) ?q15B ?q15F ?q15X ?q15N ?q15T ?q15k ?q15d ?q15u ?_; (case q15B => k_asm); (case q15F => k_asm); (case q15X => k_asm); (case q15N => k_asm); (case q15T => k_asm); (case q15k => first | exact rfl | assumption); (case q15d => ktr_room); (case q15u => ktr_units); (case q15h1 => k_extra "m_len"); (case q15h2 => k_extra "m_len"); (case q15h3 => k_extra "m_len"); (case q15h4 => k_extra "m_len"); (case q15h5 => k_extra "m_len"); k_extra "m_after")))
  (k_with "call_str" => ((with_reducible show wpAny _ _ (call (Value.type "str") [Value.int _ _]) _ _ _); refine str_int ?q16h1 ?q16h2 ?_; (case q16h1 => k_extra "m_len"); (case q16h2 => k_extra "m_len"); intro ef; (try dsimp only); (try k_fold)))
  (k_with "call ref" => k_extra "call_scaled")
  (k_with "call ref" => k_extra "call_sign")
  (k_with "call ref" => k_extra "call_point")
  (k_with "call type:str" => k_extra "call_str")
  exact True.intro
def edit_fixed (v e width places scale : Int) (plus : Bool) : Str :=
  let number := scaled (if v < 0 then -v else v) (e + scale + places)
  let d0 := if number = 0 then Str.ofString "" else strOf number
  let dd := Txt.mul (Str.ofString "0") (places - (d0.length : Int)) ++ d0
  point_field (sign_text (decide (v < 0) && decide (0 < number)) plus) (Txt.slice dd none (some ((dd.length : Int) - places))) (Txt.slice dd (some ((dd.length : Int) - places)) none) width
theorem edit_fixed_len {v e width places scale : Int} {plus : Bool} (h : 0 ≤ width) : ((edit_fixed v e width places scale plus).length : Int) = width := point_len h
theorem edit_fixed_spec {w : World} (news : Led) (a : Addr) (v e : Int) (width places scale : Int) (plus : Bool) (t1 t2 t3 t4 t5 : Tok) (hm : (a, tup [.int v t1, .int e t2]) ∈ news)
    (hv : -10 ^ 10 ≤ v) (hv' : v ≤ 10 ^ 10) (he : -15 ≤ e) (he' : e ≤ 10) (hw : 0 ≤ width) (hw' : width ≤ 44) (hp : 0 ≤ places) (hp' : places ≤ 9) (hs : -10 ≤ scale) (hs' : scale ≤ 10) :
    Spec w 3 88 news [.ref a, .int width t3, .int places t4, .int scale t5, .bool plus] (PS news (edit_fixed v e width places scale plus) ((edit_fixed v e width places scale plus).length = width)) := by
  k_extra "m_start"
  k_steps
  all_goals (walk_at "m_retS"; (case g => exact edit_fixed_len hw); unfold edit_fixed; dsimp only)
  all_goals first | rw [if_pos (show scaled _ _ = 0 by assumption), Str.length_append, lenD] | rw [if_neg (show ¬ scaled _ _ = 0 by assumption), Str.length_append]
  all_goals first | (rw [decide_eq_true (show v < 0 by assumption)]; done) | (rw [decide_eq_true (show v < 0 by assumption), Bool.true_and]) | (rw [decide_eq_false (show ¬ v < 0 by assumption)]; done) |  (rw [decide_eq_false (show ¬ v < 0 by assumption), Bool.false_and])
end
section
section
theorem reg_6 : True := by
  k_with_none
  (k_with "m_mem" => first | assumption | exact List.Mem.head _ | (refine' List.Mem.tail _ ?_; k_extra "m_mem"))
  (k_with "m_kmem" => assumption)
  (k_with "m_fill" => ((have mfill : PySem.Challenge.rw_no0231_01 = PySem.Challenge.rw_no0231_01 ∧ _root_.Mine.hd.heap_39 = _root_.Mine.hd.heap_39 := by (k_fill; exact ⟨rfl, rfl⟩)); clear mfill))
  (k_with "m_start" => (k_extra "m_fill"; unfold Spec; intros; refine wpAny_call ?_; k_dflt cell_enter))
  (k_with "m_news" => first | with_reducible assumption | (refine cb_drop (by with_reducible assumption) (fun p hp => .tail _ hp)) | (refine cb_drop (by with_reducible assumption) (fun p hp => .tail _ (.tail _ hp))) | (refine cb_drop (by with_reducible assumption) (fun p hp => .tail _ (.tail _ (.tail _ hp)))) | k_asm)
  (k_with "m_ifs" => (repeat' split) <;> first | rfl | (exfalso; first | contradiction | omega | simp_all))
  (k_with "m_after" => (intro t h' tk' ef F9 N9; (try dsimp only); (try k_fold)))
  (k_with "m_afterT" => (intro t ta tb h' tk' ef F9 N9 l1; (try k_lt l1); (try dsimp only); (try k_sweep); (try k_fold)))
  (k_with "m_len" => first | assumption | omega | ((try simp only [Str.length_append, lenA, lenB, lenC, lenD, lenE, lenF, lenG, lenH] at *); omega) | size_fits | l_fact)
  (k_with "call_field" => ((with_reducible show wpAny _ _ (call (Value.ref 60) _) _ _ _); k_dflt (refine' Spec.useV (field_spec _ _ _ _ _ ?q11h1 ?q11h2 ?q11h3) ?q11B ?q11F ?q11X ?q11N ?q11T ?q11k ?q11d ?q11u ?_; (case q11B => k_asm); (case q11F => k_asm); (case q11X => k_asm); (case q11N => k_asm); (case q11T => k_asm); (case q11k => first | exact rfl | assumption); (case q11d => ktr_room); (case q11u => ktr_units); (case q11h1 => k_extra "m_len"); (case q11h2 => k_extra "m_len"); (case q11h3 => k_extra "m_len"); k_extra "m_after")))
  (k_with "call_scaled" => ((with_reducible show wpAny _ _ (call (Value.ref 74) _) _ _ _); k_dflt (refine' Spec.useV (scaled_spec _ _ _ _ _ ?q13h1 ?q13h2 ?q13h3 ?q13h4) ?q13B ?q13F ?q13X ?q13N ?q13T ?q13k ?q13d ?q13u ?_; (case q13B => k_asm); (case q13F => k_asm); (case q13X => k_asm); (case q13N => k_asm); (case q13T => k_asm); (case q13k => first | exact rfl | assumption); (case q13d => ktr_room); (case q13u => ktr_units); (case q13h1 => k_extra "m_len"); (case q13h2 => k_extra "m_len"); (case q13h3 => k_extra "m_len"); (case q13h4 => k_extra "m_len"); k_extra "m_after")))
  (k_with "call_sign" => ((with_reducible show wpAny _ _ (call (Value.ref 67) _) _ _ _); k_dflt (refine' Spec.useV (sign_spec _ _ _) ?q14B ?q14F ?q14X ?q14N ?q14T ?q14k ?q14d ?q14u ?_; (case q14B => k_asm); (case q14F => k_asm); (case q14X => k_asm); (case q14N => k_asm); (case q14T => k_asm); (case q14k => first | exact rfl | assumption); (case q14d => ktr_room); (case q14u => ktr_units); k_extra "m_after")))
  (k_with "call_point" => ((with_reducible show wpAny _ _ (call (Value.ref 81) _) _ _ _); k_dflt (refine' Spec.useV (point_spec _ _ _ _ _ _ _ _ _ ?q15h1 ?q15h2 ?q15h3 ?q15h4 ?q15h5) ?q15B ?q15F ?q15X ?q15N ?q15T ?q15k ?q15d ?q15u ?_; (case q15B => k_asm); (case q15F => k_asm); (case q15X => k_asm); (case q15N => k_asm); (case q15T => k_asm); (case q15k => first | exact rfl | assumption); (case q15d => ktr_room); (case q15u => ktr_units); (case q15h1 => k_extra "m_len"); (case q15h2 => k_extra "m_len"); (case q15h3 => k_extra "m_len"); (case q15h4 => k_extra "m_len"); (case q15h5 => k_extra "m_len"); k_extra "m_after")))
  (k_with "call_str" => ((with_reducible show wpAny _ _ (call (Value.type "str") [Value.int _ _]) _ _ _); refine str_int ?q16h1 ?q16h2 ?_; (case q16h1 => k_extra "m_len"); (case q16h2 => k_extra "m_len"); intro ef; (try dsimp only); (try k_fold)))
  (k_with "call_fixed" => ((with_reducible show wpAny _ _ (call (Value.ref 88) _) _ _ _); k_dflt (refine' Spec.useV (edit_fixed_spec _ _ _ _ _ _ _ _ _ _ _ _ _ ?q21hm ?q21h1 ?q21h2 ?q21h3 ?q21h4 ?q21h5 ?q21h6 ?q21h7 ?q21h8 ?q21h9 ?q21h10) ?q21B ?q21F ?q21X ?q21N ?q21T ?q21k ?q21d ?q21u ?_; (case q21B => k_asm); (case q21F => k_asm); (case q21X => k_asm); (case q21N => k_asm); (case q21T => k_asm); (case q21k => first | exact rfl | assumption); (case q21d => ktr_room); (case q21u => ktr_units); (case q21hm => k_extra "m_mem"); (case q21h1 => k_extra "m_len"); (case q21h2 => k_extra "m_len"); (case q21h3 => k_extra "m_len"); (case q21h4 => k_extra "m_len"); (case q21h5 => k_extra "m_len"); (case q21h6 => k_extra "m_len"); (case q21h7 => k_extra "m_len"); (case q21h8 => k_extra "m_len"); (case q21h9 => k_extra "m_len"); (case q21h10 => k_extra "m_len"); k_extra "m_after")))
  (k_with "call ref" => k_extra "call_scaled")
  (k_with "call type:str" => k_extra "call_str")
  exact True.intro
def leadD (v count : Int) : Str :=
  let n := if v < 0 then -v else v
  let d := strOf (scaled n (count - ((strOf n).length : Int)))
  if n = 0 then Txt.mul (Str.ofString "0") count else if count < (d.length : Int) then Txt.slice d none (some count) else d
def leadP (v e count : Int) : Int :=
  let n := if v < 0 then -v else v
  let d := strOf (scaled n (count - ((strOf n).length : Int)))
  if n = 0 then 0 else if count < (d.length : Int) then ((strOf n).length : Int) + e + 1 else ((strOf n).length : Int) + e
theorem lead_facts {v e count : Int} (hv : -10 ^ 10 ≤ v) (hv' : v ≤ 10 ^ 10) (he : -15 ≤ e) (he' : e ≤ 10) (hc : 1 ≤ count) (hc' : count ≤ 10) :
    (leadD v count).length ≤ 61 ∧ -15 ≤ leadP v e count ∧ leadP v e count ≤ 72 := by
  have hn : 0 ≤ (if v < 0 then -v else v) ∧ (if v < 0 then -v else v) ≤ 10 ^ 10 := by split <;> omega
  have h1 := strOf_len hn.1 (by omega)
  have h2 : 0 ≤ scaled (if v < 0 then -v else v) (count - ((strOf (if v < 0 then -v else v)).length : Int)) := scaled_nonneg hn.1
  have h3 := scaled_lt (p := count - ((strOf (if v < 0 then -v else v)).length : Int)) hn.1 (by omega) (by omega)
  have h4 := strOf_len h2 (by omega)
  unfold leadD leadP
  dsimp only
  have h5 := Txt.slice_le (strOf (scaled (if v < 0 then -v else v) (count - ((strOf (if v < 0 then -v else v)).length : Int)))) none (some count)
  have h6 := len_mul (Str.ofString "0") count
  rw [lenC] at h6
  have h7 : (Txt.mul (Str.ofString "0") count).length ≤ 61 := by split at h6 <;> omega
  generalize strOf (scaled (if v < 0 then -v else v) (count - ((strOf (if v < 0 then -v else v)).length : Int))) = d at *
  generalize (if v < 0 then -v else v) = n at *
  refine ⟨?_, ?_, ?_⟩
  · split
    · exact h7
    · split <;> omega
  · repeat' split
    all_goals omega
  · repeat' split
    all_goals omega
theorem leading_spec {w : World} (news : Led) (a : Addr) (v e : Int) (count : Int) (t1 t2 t3 : Tok) (hm : (a, tup [.int v t1, .int e t2]) ∈ news)
    (hv : -10 ^ 10 ≤ v) (hv' : v ≤ 10 ^ 10) (he : -15 ≤ e) (he' : e ≤ 10) (hc : 1 ≤ count) (hc' : count ≤ 10) :
    Spec w 2 95 news [.ref a, .int count t3] (PT news (fun ta tb => [.str (leadD v count) ta, .int (leadP v e count) tb]) ((leadD v count).length ≤ 61 ∧ -15 ≤ leadP v e count ∧ leadP v e count ≤ 72)) := by
  k_extra "m_start"
  k_steps
  all_goals (walk_at "m_retSI"; (case g => exact lead_facts hv hv' he he' hc hc'); (case e1 => (unfold leadD; dsimp only; k_extra "m_ifs")); (case e2 => (unfold leadP; dsimp only; k_extra "m_ifs")))
end
def SzV (sz : Value) (k : Int) : Prop := (sz = .none ∧ k = 2) ∨ (∃ t, sz = .int k t ∧ 2 ≤ k ∧ k ≤ 3)
theorem strOf_len2 {a : Int} (h0 : 0 ≤ a) (ha : a < 100) : 1 ≤ (strOf a).length ∧ (strOf a).length ≤ 2 := by
  have : ∀ n : Fin 100, 1 ≤ (strOf (n.val : Int)).length ∧ (strOf (n.val : Int)).length ≤ 2 := by decide +kernel
  have := this ⟨a.toNat, by omega⟩
  rwa [show ((⟨a.toNat, by omega⟩ : Fin 100).val : Int) = a from Int.toNat_of_nonneg h0] at this
theorem str_int2 {prog : Program} {w : World} {A : Around} {E : Value → Shared → Prop} {s : Shared} {a : Int} {t : Tok} {Q : Value → Shared → Prop} (h0 : 0 ≤ a) (ha : a < 100) (h : 1 ≤ (strOf a).length ∧ (strOf a).length ≤ 2 → Q (.str (strOf a) s.toks) { s with toks := s.toks + 1 }) :
    wpAny (model prog w) A (call (.type "str") [.int a t]) Q E s := P.str_of_int (log2_small h0 (by omega)) (h (strOf_len2 h0 ha))
section
theorem reg_7 : True := by
  (k_with "call type:str" => ((with_reducible show wpAny _ _ (call (Value.type "str") [Value.int _ _]) _ _ _); refine str_int2 ?q24h1 ?q24h2 ?_; (case q24h1 => k_extra "m_len"); (case q24h2 => k_extra "m_len"); intro ef; (try dsimp only); (try k_fold)))
  exact True.intro
def expText (letter : Str) (power k : Int) : Str :=
  letter ++ (if power < 0 then Str.ofString "-" else Str.ofString "+") ++ Txt.mul (Str.ofString "0") (k - ((strOf (if power < 0 then -power else power)).length : Int)) ++ strOf (if power < 0 then -power else power)
theorem expText_len {letter : Str} {power k : Int} (hl : letter.length ≤ 1) (hp : -99 ≤ power) (hp' : power ≤ 99) (h1 : 2 ≤ k) (h2 : k ≤ 3) : (expText letter power k).length ≤ 5 ∧ 1 ≤ (expText letter power k).length := by
  have hn : 0 ≤ (if power < 0 then -power else power) ∧ (if power < 0 then -power else power) < 100 := by split <;> omega
  have h3 := strOf_len2 hn.1 hn.2
  have h4 := len_mul (Str.ofString "0") (k - ((strOf (if power < 0 then -power else power)).length : Int))
  rw [lenC] at h4
  unfold expText
  rw [Str.length_append, Str.length_append, Str.length_append]
  have h5 : (if power < 0 then Str.ofString "-" else Str.ofString "+").length = 1 := by split <;> first | exact lenE | exact lenF
  rw [h5]
  generalize (if power < 0 then -power else power) = n at *
  generalize (Txt.mul (Str.ofString "0") (k - ((strOf n).length : Int))).length = q at *
  split at h4 <;> simp at * <;> omega
theorem exponent_spec {w : World} (news : Led) (letter : Str) (power : Int) (sz : Value) (k : Int) (t1 t2 : Tok) 
    (hl : letter.length ≤ 1) (hp : -99 ≤ power) (hp' : power ≤ 99) (hz : SzV sz k) :
    Spec w 1 102 news [.str letter t1, .int power t2, sz] (PS news (expText letter power k) ((expText letter power k).length ≤ 5 ∧ 1 ≤ (expText letter power k).length)) := by
  rcases hz with ⟨rfl, rfl⟩ | ⟨t, rfl, h1, h2⟩
  all_goals (
   k_extra "m_start"
   k_steps
   all_goals (walk_at "m_retS"; (case g => exact expText_len hl hp hp' (by omega) (by omega)); unfold expText; first | (rw [if_pos (show power < 0 by assumption), if_pos (show power < 0 by assumption)]; done) |  (rw [if_neg (show ¬ power < 0 by assumption), if_neg (show ¬ power < 0 by assumption)]; done)))
end
end
section
section
theorem reg_8 : True := by
  k_with_none
  (k_with "m_mem" => first | assumption | exact List.Mem.head _ | (refine' List.Mem.tail _ ?_; k_extra "m_mem"))
  (k_with "m_kmem" => assumption)
  (k_with "m_fill" => ((have mfill : PySem.Challenge.rw_no0231_01 = PySem.Challenge.rw_no0231_01 ∧ _root_.Mine.hd.heap_39 = _root_.Mine.hd.heap_39 := by (k_fill; exact ⟨rfl, rfl⟩)); clear mfill))
  (k_with "m_start" => (k_extra "m_fill"; unfold Spec; intros; refine wpAny_call ?_; k_dflt cell_enter))
  (k_with "m_news" => first | with_reducible assumption | (refine cb_drop (by with_reducible assumption) (fun p hp => .tail _ hp)) | (refine cb_drop (by with_reducible assumption) (fun p hp => .tail _ (.tail _ hp))) | (refine cb_drop (by with_reducible assumption) (fun p hp => .tail _ (.tail _ (.tail _ hp)))) | k_asm)
  (k_with "m_ifs" => (repeat' split) <;> first | rfl | (exfalso; first | contradiction | omega | simp_all))
  (k_with "m_after" => (intro t h' tk' ef F9 N9; (try dsimp only); (try k_fold)))
  (k_with "m_afterT" => (intro t ta tb h' tk' ef F9 N9 l1; (try k_lt l1); (try dsimp only); (try k_sweep); (try k_fold)))
  (k_with "m_len" => first | assumption | omega | ((try simp only [Str.length_append, lenA, lenB, lenC, lenD, lenE, lenF, lenG, lenH] at *); omega) | size_fits | l_fact)
  (k_with "call_field" => ((with_reducible show wpAny _ _ (call (Value.ref 60) _) _ _ _); k_dflt (refine' Spec.useV (field_spec _ _ _ _ _ ?q11h1 ?q11h2 ?q11h3) ?q11B ?q11F ?q11X ?q11N ?q11T ?q11k ?q11d ?q11u ?_; (case q11B => k_asm); (case q11F => k_asm); (case q11X => k_asm); (case q11N => k_asm); (case q11T => k_asm); (case q11k => first | exact rfl | assumption); (case q11d => ktr_room); (case q11u => ktr_units); (case q11h1 => k_extra "m_len"); (case q11h2 => k_extra "m_len"); (case q11h3 => k_extra "m_len"); k_extra "m_after")))
  (k_with "call_scaled" => ((with_reducible show wpAny _ _ (call (Value.ref 74) _) _ _ _); k_dflt (refine' Spec.useV (scaled_spec _ _ _ _ _ ?q13h1 ?q13h2 ?q13h3 ?q13h4) ?q13B ?q13F ?q13X ?q13N ?q13T ?q13k ?q13d ?q13u ?_; (case q13B => k_asm); (case q13F => k_asm); (case q13X => k_asm); (case q13N => k_asm); (case q13T => k_asm); (case q13k => first | exact rfl | assumption); (case q13d => ktr_room); (case q13u => ktr_units); (case q13h1 => k_extra "m_len"); (case q13h2 => k_extra "m_len"); (case q13h3 => k_extra "m_len"); (case q13h4 => k_extra "m_len"); k_extra "m_after")))
  (k_with "call_sign" => ((with_reducible show wpAny _ _ (call (Value.ref 67) _) _ _ _); k_dflt (refine' Spec.useV (sign_spec _ _ _) ?q14B ?q14F ?q14X ?q14N ?q14T ?q14k ?q14d ?q14u ?_; (case q14B => k_asm); (case q14F => k_asm); (case q14X => k_asm); (case q14N => k_asm); (case q14T => k_asm); (case q14k => first | exact rfl | assumption); (case q14d => ktr_room); (case q14u => ktr_units); k_extra "m_after")))
  (k_with "call_point" => ((with_reducible show wpAny _ _ (call (Value.ref 81) _) _ _ _); k_dflt (refine' Spec.useV (point_spec _ _ _ _ _ _ _ _ _ ?q15h1 ?q15h2 ?q15h3 ?q15h4 ?q15h5) ?q15B ?q15F ?q15X ?q15N ?q15T ?q15k ?q15d ?q15u ?_; (case q15B => k_asm); (case q15F => k_asm); (case q15X => k_asm); (case q15N => k_asm); (case q15T => k_asm); (case q15k => first | exact rfl | assumption); (case q15d => ktr_room); (case q15u => ktr_units); (case q15h1 => k_extra "m_len"); (case q15h2 => k_extra "m_len"); (case q15h3 => k_extra "m_len"); (case q15h4 => k_extra "m_len"); (case q15h5 => k_extra "m_len"); k_extra "m_after")))
  (k_with "call_str" => ((with_reducible show wpAny _ _ (call (Value.type "str") [Value.int _ _]) _ _ _); refine str_int ?q16h1 ?q16h2 ?_; (case q16h1 => k_extra "m_len"); (case q16h2 => k_extra "m_len"); intro ef; (try dsimp only); (try k_fold)))
  (k_with "call_fixed" => ((with_reducible show wpAny _ _ (call (Value.ref 88) _) _ _ _); k_dflt (refine' Spec.useV (edit_fixed_spec _ _ _ _ _ _ _ _ _ _ _ _ _ ?q21hm ?q21h1 ?q21h2 ?q21h3 ?q21h4 ?q21h5 ?q21h6 ?q21h7 ?q21h8 ?q21h9 ?q21h10) ?q21B ?q21F ?q21X ?q21N ?q21T ?q21k ?q21d ?q21u ?_; (case q21B => k_asm); (case q21F => k_asm); (case q21X => k_asm); (case q21N => k_asm); (case q21T => k_asm); (case q21k => first | exact rfl | assumption); (case q21d => ktr_room); (case q21u => ktr_units); (case q21hm => k_extra "m_mem"); (case q21h1 => k_extra "m_len"); (case q21h2 => k_extra "m_len"); (case q21h3 => k_extra "m_len"); (case q21h4 => k_extra "m_len"); (case q21h5 => k_extra "m_len"); (case q21h6 => k_extra "m_len"); (case q21h7 => k_extra "m_len"); (case q21h8 => k_extra "m_len"); (case q21h9 => k_extra "m_len"); (case q21h10 => k_extra "m_len"); k_extra "m_after")))
  (k_with "call_lead" => ((with_reducible show wpAny _ _ (call (Value.ref 95) _) _ _ _); k_dflt (refine' Spec.useT (leading_spec _ _ _ _ _ _ _ _ ?q25hm ?q25h1 ?q25h2 ?q25h3 ?q25h4 ?q25h5 ?q25h6) ?q25B ?q25F ?q25X ?q25N ?q25T ?q25k ?q25d ?q25u ?_; (case q25B => k_asm); (case q25F => k_asm); (case q25X => k_asm); (case q25N => k_asm); (case q25T => k_asm); (case q25k => first | exact rfl | assumption); (case q25d => ktr_room); (case q25u => ktr_units); (case q25hm => k_extra "m_mem"); (case q25h1 => k_extra "m_len"); (case q25h2 => k_extra "m_len"); (case q25h3 => k_extra "m_len"); (case q25h4 => k_extra "m_len"); (case q25h5 => k_extra "m_len"); (case q25h6 => k_extra "m_len"); k_extra "m_afterT")))
  (k_with "call_exponent" => ((with_reducible show wpAny _ _ (call (Value.ref 102) _) _ _ _); k_dflt (refine' Spec.useV (exponent_spec _ _ _ _ _ _ _ ?q26h1 ?q26h2 ?q26h3 ?q26h4) ?q26B ?q26F ?q26X ?q26N ?q26T ?q26k ?q26d ?q26u ?_; (case q26B => k_asm); (case q26F => k_asm); (case q26X => k_asm); (case q26N => k_asm); (case q26T => k_asm); (case q26k => first | exact rfl | assumption); (case q26d => ktr_room); (case q26u => ktr_units); (case q26h4 => k_asm); (case q26h1 => k_extra "m_len"); (case q26h2 => k_extra "m_len"); (case q26h3 => k_extra "m_len"); k_extra "m_after")))
  (k_with "call ref" => k_extra "call_sign")
  (k_with "call ref" => k_extra "call_point")
  (k_with "call ref" => k_extra "call_exponent")
  (k_with "call ref" => k_extra "call_lead")
  exact True.intro
def expP (v e count scale : Int) : Int := if v ≠ 0 then leadP v e count - scale else leadP v e count
def edit_exp (letter : Str) (v e width places k scale : Int) (plus : Bool) : Str :=
  if scale ≤ 0 then point_field (sign_text (decide (v < 0)) plus) (Str.ofString "") (Txt.mul (Str.ofString "0") (-scale) ++ leadD v (places + scale) ++ expText letter (expP v e (places + scale) scale) k) width
  else point_field (sign_text (decide (v < 0)) plus) (Txt.slice (leadD v (places + 1)) none (some scale)) (Txt.slice (leadD v (places + 1)) (some scale) none ++ expText letter (expP v e (places + 1) scale) k) width
theorem edit_exp_len {letter : Str} {v e width places k scale : Int} {plus : Bool} (h : 0 ≤ width) : ((edit_exp letter v e width places k scale plus).length : Int) = width := by
  unfold edit_exp
  split <;> exact point_len h
theorem edit_exp_spec {w : World} (news : Led) (letter : Str) (a : Addr) (v e : Int) (width places : Int) (sz : Value) (k scale : Int) (plus : Bool) (t1 t2 t3 t4 t5 t6 : Tok) (hm : (a, tup [.int v t1, .int e t2]) ∈ news)
    (hl : letter.length ≤ 1) (hv : -10 ^ 10 ≤ v) (hv' : v ≤ 10 ^ 10) (he : -15 ≤ e) (he' : e ≤ 10) (hw : 0 ≤ width) (hw' : width ≤ 44) (hp : 1 ≤ places) (hp' : places ≤ 9) (hz : SzV sz k) (hs : -places < scale) (hs' : scale ≤ places + 1) :
    Spec w 3 109 news [.str letter t6, .ref a, .int width t3, .int places t4, sz, .int scale t5, .bool plus] (PS news (edit_exp letter v e width places k scale plus) ((edit_exp letter v e width places k scale plus).length = width)) := by
  k_extra "m_start"
  k_steps
  all_goals (walk_at "m_retS"; (case g => exact edit_exp_len hw); unfold edit_exp expP; first
    | (rw [if_pos (show scale ≤ 0 by with_reducible assumption), if_pos (show v ≠ 0 by with_reducible assumption)]; done)
    | (rw [if_pos (show scale ≤ 0 by with_reducible assumption), if_neg (show ¬ v ≠ 0 from not_not_intro (by with_reducible assumption))]; done)
    | (rw [if_neg (show ¬ scale ≤ 0 by with_reducible assumption), if_pos (show v ≠ 0 by with_reducible assumption)]; done)
    | (rw [if_neg (show ¬ scale ≤ 0 by with_reducible assumption), if_neg (show ¬ v ≠ 0 from not_not_intro (by with_reducible assumption))]; done))
end
end
section
section
theorem reg_9 : True := by
  k_with_none
  (k_with "m_mem" => first | assumption | exact List.Mem.head _ | (refine' List.Mem.tail _ ?_; k_extra "m_mem"))
  (k_with "m_kmem" => assumption)
  (k_with "m_fill" => ((have mfill : PySem.Challenge.rw_no0231_01 = PySem.Challenge.rw_no0231_01 ∧ _root_.Mine.hd.heap_39 = _root_.Mine.hd.heap_39 := by (k_fill; exact ⟨rfl, rfl⟩)); clear mfill))
  (k_with "m_start" => (k_extra "m_fill"; unfold Spec; intros; refine wpAny_call ?_; k_dflt cell_enter))
  (k_with "m_news" => first | with_reducible assumption | (refine cb_drop (by with_reducible assumption) (fun p hp => .tail _ hp)) | (refine cb_drop (by with_reducible assumption) (fun p hp => .tail _ (.tail _ hp))) | (refine cb_drop (by with_reducible assumption) (fun p hp => .tail _ (.tail _ (.tail _ hp)))) | k_asm)
  (k_with "m_ifs" => (repeat' split) <;> first | rfl | (exfalso; first | contradiction | omega | simp_all))
  (k_with "m_after" => (intro t h' tk' ef F9 N9; (try dsimp only); (try k_fold)))
  (k_with "m_afterT" => (intro t ta tb h' tk' ef F9 N9 l1; (try k_lt l1); (try dsimp only); (try k_sweep); (try k_fold)))
  (k_with "m_len" => first | assumption | omega | ((try simp only [Str.length_append, lenA, lenB, lenC, lenD, lenE, lenF, lenG, lenH] at *); omega) | size_fits | l_fact)
  (k_with "call_field" => ((with_reducible show wpAny _ _ (call (Value.ref 60) _) _ _ _); k_dflt (refine' Spec.useV (field_spec _ _ _ _ _ ?q11h1 ?q11h2 ?q11h3) ?q11B ?q11F ?q11X ?q11N ?q11T ?q11k ?q11d ?q11u ?_; (case q11B => k_asm); (case q11F => k_asm); (case q11X => k_asm); (case q11N => k_asm); (case q11T => k_asm); (case q11k => first | exact rfl | assumption); (case q11d => ktr_room); (case q11u => ktr_units); (case q11h1 => k_extra "m_len"); (case q11h2 => k_extra "m_len"); (case q11h3 => k_extra "m_len"); k_extra "m_after")))
  (k_with "call_scaled" => ((with_reducible show wpAny _ _ (call (Value.ref 74) _) _ _ _); k_dflt (refine' Spec.useV (scaled_spec _ _ _ _ _ ?q13h1 ?q13h2 ?q13h3 ?q13h4) ?q13B ?q13F ?q13X ?q13N ?q13T ?q13k ?q13d ?q13u ?_; (case q13B => k_asm); (case q13F => k_asm); (case q13X => k_asm); (case q13N => k_asm); (case q13T => k_asm); (case q13k => first | exact rfl | assumption); (case q13d => ktr_room); (case q13u => ktr_units); (case q13h1 => k_extra "m_len"); (case q13h2 => k_extra "m_len"); (case q13h3 => k_extra "m_len"); (case q13h4 => k_extra "m_len"); k_extra "m_after")))
  (k_with "call_sign" => ((with_reducible show wpAny _ _ (call (Value.ref 67) _) _ _ _); k_dflt (refine' Spec.useV (sign_spec _ _ _) ?q14B ?q14F ?q14X ?q14N ?q14T ?q14k ?q14d ?q14u ?_; (case q14B => k_asm); (case q14F => k_asm); (case q14X => k_asm); (case q14N => k_asm); (case q14T => k_asm); (case q14k => first | exact rfl | assumption); (case q14d => ktr_room); (case q14u => ktr_units); k_extra "m_after")))
  (k_with "call_point" => ((with_reducible show wpAny _ _ (call (Value.ref 81) _) _ _ _); k_dflt (refine' Spec.useV (point_spec _ _ _ _ _ _ _ _ _ ?q15h1 ?q15h2 ?q15h3 ?q15h4 ?q15h5) ?q15B ?q15F ?q15X ?q15N ?q15T ?q15k ?q15d ?q15u ?_; (case q15B => k_asm); (case q15F => k_asm); (case q15X => k_asm); (case q15N => k_asm); (case q15T => k_asm); (case q15k => first | exact rfl | assumption); (case q15d => ktr_room); (case q15u => ktr_units); (case q15h1 => k_extra "m_len"); (case q15h2 => k_extra "m_len"); (case q15h3 => k_extra "m_len"); (case q15h4 => k_extra "m_len"); (case q15h5 => k_extra "m_len"); k_extra "m_after")))
  (k_with "call_str" => ((with_reducible show wpAny _ _ (call (Value.type "str") [Value.int _ _]) _ _ _); refine str_int ?q16h1 ?q16h2 ?_; (case q16h1 => k_extra "m_len"); (case q16h2 => k_extra "m_len"); intro ef; (try dsimp only); (try k_fold)))
  (k_with "call_fixed" => ((with_reducible show wpAny _ _ (call (Value.ref 88) _) _ _ _); k_dflt (refine' Spec.useV (edit_fixed_spec _ _ _ _ _ _ _ _ _ _ _ _ _ ?q21hm ?q21h1 ?q21h2 ?q21h3 ?q21h4 ?q21h5 ?q21h6 ?q21h7 ?q21h8 ?q21h9 ?q21h10) ?q21B ?q21F ?q21X ?q21N ?q21T ?q21k ?q21d ?q21u ?_; (case q21B => k_asm); (case q21F => k_asm); (case q21X => k_asm); (case q21N => k_asm); (case q21T => k_asm); (case q21k => first | exact rfl | assumption); (case q21d => ktr_room); (case q21u => ktr_units); (case q21hm => k_extra "m_mem"); (case q21h1 => k_extra "m_len"); (case q21h2 => k_extra "m_len"); (case q21h3 => k_extra "m_len"); (case q21h4 => k_extra "m_len"); (case q21h5 => k_extra "m_len"); (case q21h6 => k_extra "m_len"); (case q21h7 => k_extra "m_len"); (case q21h8 => k_extra "m_len"); (case q21h9 => k_extra "m_len"); (case q21h10 => k_extra "m_len"); k_extra "m_after")))
  (k_with "call_lead" => ((with_reducible show wpAny _ _ (call (Value.ref 95) _) _ _ _); k_dflt (refine' Spec.useT (leading_spec _ _ _ _ _ _ _ _ ?q25hm ?q25h1 ?q25h2 ?q25h3 ?q25h4 ?q25h5 ?q25h6) ?q25B ?q25F ?q25X ?q25N ?q25T ?q25k ?q25d ?q25u ?_; (case q25B => k_asm); (case q25F => k_asm); (case q25X => k_asm); (case q25N => k_asm); (case q25T => k_asm); (case q25k => first | exact rfl | assumption); (case q25d => ktr_room); (case q25u => ktr_units); (case q25hm => k_extra "m_mem"); (case q25h1 => k_extra "m_len"); (case q25h2 => k_extra "m_len"); (case q25h3 => k_extra "m_len"); (case q25h4 => k_extra "m_len"); (case q25h5 => k_extra "m_len"); (case q25h6 => k_extra "m_len"); k_extra "m_afterT")))
  (k_with "call_exponent" => ((with_reducible show wpAny _ _ (call (Value.ref 102) _) _ _ _); k_dflt (refine' Spec.useV (exponent_spec _ _ _ _ _ _ _ ?q26h1 ?q26h2 ?q26h3 ?q26h4) ?q26B ?q26F ?q26X ?q26N ?q26T ?q26k ?q26d ?q26u ?_; (case q26B => k_asm); (case q26F => k_asm); (case q26X => k_asm); (case q26N => k_asm); (case q26T => k_asm); (case q26k => first | exact rfl | assumption); (case q26d => ktr_room); (case q26u => ktr_units); (case q26h4 => k_asm); (case q26h1 => k_extra "m_len"); (case q26h2 => k_extra "m_len"); (case q26h3 => k_extra "m_len"); k_extra "m_after")))
  (k_with "call_exp" => ((with_reducible show wpAny _ _ (call (Value.ref 109) _) _ _ _); k_dflt (refine' Spec.useV (edit_exp_spec _ _ _ _ _ _ _ _ _ _ _ _ _ _ _ _ _ ?q31hm ?q31h1 ?q31h2 ?q31h3 ?q31h4 ?q31h5 ?q31h6 ?q31h7 ?q31h8 ?q31h9 ?q31hz ?q31h10 ?q31h11) ?q31B ?q31F ?q31X ?q31N ?q31T ?q31k ?q31d ?q31u ?_; (case q31B => k_asm); (case q31F => k_asm); (case q31X => k_asm); (case q31N => k_asm); (case q31T => k_asm); (case q31k => first | exact rfl | assumption); (case q31d => ktr_room); (case q31u => ktr_units); (case q31hm => k_extra "m_mem"); (case q31hz => k_asm); (case q31h1 => k_extra "m_len"); (case q31h2 => k_extra "m_len"); (case q31h3 => k_extra "m_len"); (case q31h4 => k_extra "m_len"); (case q31h5 => k_extra "m_len"); (case q31h6 => k_extra "m_len"); (case q31h7 => k_extra "m_len"); (case q31h8 => k_extra "m_len"); (case q31h9 => k_extra "m_len"); (case q31h10 => k_extra "m_len"); (case q31h11 => k_extra "m_len"); k_extra "m_after")))
  (k_with "call type:str" => k_extra "call_str")
  exact True.intro
def is_general (v e places : Int) : Bool :=
  if v = 0 then false else if 0 ≤ ((strOf (if v < 0 then -v else v)).length : Int) + e then decide (((strOf (if v < 0 then -v else v)).length : Int) + e ≤ places) else decide (0 ≤ ((strOf (if v < 0 then -v else v)).length : Int) + e)
theorem is_general_spec {w : World} (news : Led) (a : Addr) (v e : Int) (places : Int) (t1 t2 t4 : Tok) (hm : (a, tup [.int v t1, .int e t2]) ∈ news)
    (hv : -10 ^ 10 ≤ v) (hv' : v ≤ 10 ^ 10) (he : -15 ≤ e) (he' : e ≤ 10) (hp : 1 ≤ places) (hp' : places ≤ 9) :
    Spec w 1 116 news [.ref a, .int places t4] (PB news (is_general v e places) True) := by
  k_extra "m_start"
  k_steps
  all_goals (walk_at "m_retB"; (case g => trivial); unfold is_general; k_extra "m_ifs")
end
theorem reg_10 : True := by
  (k_with "call_isgen" => ((with_reducible show wpAny _ _ (call (Value.ref 116) _) _ _ _); k_dflt (refine' Spec.useV (is_general_spec _ _ _ _ _ _ _ _ ?q33hm ?q33h1 ?q33h2 ?q33h3 ?q33h4 ?q33h5 ?q33h6) ?q33B ?q33F ?q33X ?q33N ?q33T ?q33k ?q33d ?q33u ?_; (case q33B => k_asm); (case q33F => k_asm); (case q33X => k_asm); (case q33N => k_asm); (case q33T => k_asm); (case q33k => first | exact rfl | assumption); (case q33d => ktr_room); (case q33u => ktr_units); (case q33hm => k_extra "m_mem"); (case q33h1 => k_extra "m_len"); (case q33h2 => k_extra "m_len"); (case q33h3 => k_extra "m_len"); (case q33h4 => k_extra "m_len"); (case q33h5 => k_extra "m_len"); (case q33h6 => k_extra "m_len"); k_extra "m_after")))
  exact True.intro
theorem is_general_le {v e places : Int} (h : is_general v e places = true) : v ≠ 0 ∧ 0 ≤ ((strOf (if v < 0 then -v else v)).length : Int) + e ∧ ((strOf (if v < 0 then -v else v)).length : Int) + e ≤ places := by
  unfold is_general at h
  generalize ((strOf (if v < 0 then -v else v)).length : Int) + e = q at *
  split at h
  · cases h
  · split at h
    · exact ⟨by assumption, by assumption, of_decide_eq_true h⟩
    · exact absurd (of_decide_eq_true h) (by assumption)
section
theorem reg_11 : True := by
  (k_with "m_len" => ((have hb := is_general_le (by with_reducible assumption)); omega))
  (k_with "compareOp IsNot" => ((with_reducible rename SzV _ _ => hz); (obtain ⟨e1, e2⟩ | ⟨t, e1, e2, e3⟩ := hz <;> subst e1)))
  (k_with "call type:str" => k_extra "call_str")
  (k_with "call ref" => k_extra "call_isgen")
  (k_with "call ref" => k_extra "call_fixed")
  (k_with "call ref" => k_extra "call_exp")
  exact True.intro
def edit_general (v e width places k scale : Int) (plus : Bool) : Str :=
  if is_general v e places = true then
    if (Txt.item (edit_fixed v e (width - (k + 2)) (places - (((strOf (if v < 0 then -v else v)).length : Int) + e)) 0 plus) 0 == Str.ofString "*") = true then Txt.mul (Str.ofString "*") width
    else edit_fixed v e (width - (k + 2)) (places - (((strOf (if v < 0 then -v else v)).length : Int) + e)) 0 plus ++ Txt.mul (Str.ofString " ") (k + 2)
  else edit_exp (Str.ofString "E") v e width places k scale plus
theorem edit_general_len {v e width places k scale : Int} {plus : Bool} (h : k + 2 ≤ width) (hk : 0 ≤ k) : ((edit_general v e width places k scale plus).length : Int) = width := by
  unfold edit_general
  generalize ((strOf (if v < 0 then -v else v)).length : Int) + e = q at *
  split
  · split
    · rw [len_mul, lenH]; simp; omega
    · rw [Str.length_append, Int.natCast_add, edit_fixed_len (by omega), len_mul, lenG]
      have : ¬ (k + 2 < 0) := by omega
      simp only [this, decide_false, Bool.false_eq_true, if_false]; omega
  · exact edit_exp_len (by omega)
theorem edit_general_spec {w : World} (news : Led) (a : Addr) (v e : Int) (width places : Int) (sz : Value) (k scale : Int) (plus : Bool) (t1 t2 t3 t4 t5 : Tok) (hm : (a, tup [.int v t1, .int e t2]) ∈ news)
    (hv : -10 ^ 10 ≤ v) (hv' : v ≤ 10 ^ 10) (he : -15 ≤ e) (he' : e ≤ 10) (hw : 10 ≤ width) (hw' : width ≤ 44) (hp : 1 ≤ places) (hp' : places ≤ 9) (hz : SzV sz k) (hs : -places < scale) (hs' : scale ≤ places + 1) :
    Spec w 4 123 news [.ref a, .int width t3, .int places t4, sz, .int scale t5, .bool plus] (PS news (edit_general v e width places k scale plus) ((edit_general v e width places k scale plus).length = width)) := by
  have hk : 2 ≤ k ∧ k ≤ 3 := by
    rcases hz with ⟨_, h⟩ | ⟨_, _, h⟩ <;> omega
  k_extra "m_start"
  k_steps
  all_goals (walk_at "m_retS"; (case g => exact edit_general_len (by omega) (by omega)); unfold edit_general)
  all_goals first
    | (rw [if_neg (show ¬ is_general v e places = true by simp only [show is_general v e places = false by with_reducible assumption]; decide)]; done)
    | ((try rw [show k = 2 by with_reducible assumption, show (2 + 2 : Int) = 4 from rfl]); rw [if_pos (show is_general v e places = true by with_reducible assumption)]; first
      | (rw [if_pos (by with_reducible assumption)]; done)
      | (rw [if_neg (show ¬ _ = true from ne_true_of_eq_false (by with_reducible assumption))]; done))
end
end
section
/-- the item's tuple: which letter (0 F, 1 E, 2 D, 3 G), places, the exponent's size -/
inductive ItemR (places : Int) (k : Int) : Nat → List Value → Prop
  | f (t1 t2 t3 : Tok) : ItemR places k 0 [.str (Str.ofString "F") t1, .int 44 t2, .int places t3]
  | d (t1 t2 t3 : Tok) : SzV .none k → ItemR places k 2 [.str (Str.ofString "D") t1, .int 44 t2, .int places t3]
  | e (t1 t2 t3 : Tok) (sz : Value) : SzV sz k → ItemR places k 1 [.str (Str.ofString "E") t1, .int 44 t2, .int places t3, sz]
  | g (t1 t2 t3 : Tok) (sz : Value) : SzV sz k → ItemR places k 3 [.str (Str.ofString "G") t1, .int 44 t2, .int places t3, sz]
theorem reg_12 : True := by
  k_with_none
  (k_with "m_mem" => first | assumption | exact List.Mem.head _ | (refine' List.Mem.tail _ ?_; k_extra "m_mem"))
  (k_with "m_kmem" => assumption)
  (k_with "m_fill" => ((have mfill : PySem.Challenge.rw_no0231_01 = PySem.Challenge.rw_no0231_01 ∧ _root_.Mine.hd.heap_39 = _root_.Mine.hd.heap_39 := by (k_fill; exact ⟨rfl, rfl⟩)); clear mfill))
  (k_with "m_start" => (k_extra "m_fill"; unfold Spec; intros; refine wpAny_call ?_; k_dflt cell_enter))
  (k_with "m_news" => first | with_reducible assumption | (refine cb_drop (by with_reducible assumption) (fun p hp => .tail _ hp)) | (refine cb_drop (by with_reducible assumption) (fun p hp => .tail _ (.tail _ hp))) | (refine cb_drop (by with_reducible assumption) (fun p hp => .tail _ (.tail _ (.tail _ hp)))) | k_asm)
  (k_with "m_ifs" => (repeat' split) <;> first | rfl | (exfalso; first | contradiction | omega | simp_all))
  (k_with "m_after" => (intro t h' tk' ef F9 N9; (try dsimp only); (try k_fold)))
  (k_with "m_afterT" => (intro t ta tb h' tk' ef F9 N9 l1; (try k_lt l1); (try dsimp only); (try k_sweep); (try k_fold)))
  (k_with "m_len" => first | assumption | omega | ((try simp only [Str.length_append, lenA, lenB, lenC, lenD, lenE, lenF, lenG, lenH] at *); omega) | size_fits | l_fact)
  (k_with "call_field" => ((with_reducible show wpAny _ _ (call (Value.ref 60) _) _ _ _); k_dflt (refine' Spec.useV (field_spec _ _ _ _ _ ?q11h1 ?q11h2 ?q11h3) ?q11B ?q11F ?q11X ?q11N ?q11T ?q11k ?q11d ?q11u ?_; (case q11B => k_asm); (case q11F => k_asm); (case q11X => k_asm); (case q11N => k_asm); (case q11T => k_asm); (case q11k => first | exact rfl | assumption); (case q11d => ktr_room); (case q11u => ktr_units); (case q11h1 => k_extra "m_len"); (case q11h2 => k_extra "m_len"); (case q11h3 => k_extra "m_len"); k_extra "m_after")))
  (k_with "call_scaled" => ((with_reducible show wpAny _ _ (call (Value.ref 74) _) _ _ _); k_dflt (refine' Spec.useV (scaled_spec _ _ _ _ _ ?q13h1 ?q13h2 ?q13h3 ?q13h4) ?q13B ?q13F ?q13X ?q13N ?q13T ?q13k ?q13d ?q13u ?_; (case q13B => k_asm); (case q13F => k_asm); (case q13X => k_asm); (case q13N => k_asm); (case q13T => k_asm); (case q13k => first | exact rfl | assumption); (case q13d => ktr_room); (case q13u => ktr_units); (case q13h1 => k_extra "m_len"); (case q13h2 => k_extra "m_len"); (case q13h3 => k_extra "m_len"); (case q13h4 => k_extra "m_len"); k_extra "m_after")))
  (k_with "call_sign" => ((with_reducible show wpAny _ _ (call (Value.ref 67) _) _ _ _); k_dflt (refine' Spec.useV (sign_spec _ _ _) ?q14B ?q14F ?q14X ?q14N ?q14T ?q14k ?q14d ?q14u ?_; (case q14B => k_asm); (case q14F => k_asm); (case q14X => k_asm); (case q14N => k_asm); (case q14T => k_asm); (case q14k => first | exact rfl | assumption); (case q14d => ktr_room); (case q14u => ktr_units); k_extra "m_after")))
  (k_with "call_point" => ((with_reducible show wpAny _ _ (call (Value.ref 81) _) _ _ _); k_dflt (refine' Spec.useV (point_spec _ _ _ _ _ _ _ _ _ ?q15h1 ?q15h2 ?q15h3 ?q15h4 ?q15h5) ?q15B ?q15F ?q15X ?q15N ?q15T ?q15k ?q15d ?q15u ?_; (case q15B => k_asm); (case q15F => k_asm); (case q15X => k_asm); (case q15N => k_asm); (case q15T => k_asm); (case q15k => first | exact rfl | assumption); (case q15d => ktr_room); (case q15u => ktr_units); (case q15h1 => k_extra "m_len"); (case q15h2 => k_extra "m_len"); (case q15h3 => k_extra "m_len"); (case q15h4 => k_extra "m_len"); (case q15h5 => k_extra "m_len"); k_extra "m_after")))
  (k_with "call_str" => ((with_reducible show wpAny _ _ (call (Value.type "str") [Value.int _ _]) _ _ _); refine str_int ?q16h1 ?q16h2 ?_; (case q16h1 => k_extra "m_len"); (case q16h2 => k_extra "m_len"); intro ef; (try dsimp only); (try k_fold)))
  (k_with "call_fixed" => ((with_reducible show wpAny _ _ (call (Value.ref 88) _) _ _ _); k_dflt (refine' Spec.useV (edit_fixed_spec _ _ _ _ _ _ _ _ _ _ _ _ _ ?q21hm ?q21h1 ?q21h2 ?q21h3 ?q21h4 ?q21h5 ?q21h6 ?q21h7 ?q21h8 ?q21h9 ?q21h10) ?q21B ?q21F ?q21X ?q21N ?q21T ?q21k ?q21d ?q21u ?_; (case q21B => k_asm); (case q21F => k_asm); (case q21X => k_asm); (case q21N => k_asm); (case q21T => k_asm); (case q21k => first | exact rfl | assumption); (case q21d => ktr_room); (case q21u => ktr_units); (case q21hm => k_extra "m_mem"); (case q21h1 => k_extra "m_len"); (case q21h2 => k_extra "m_len"); (case q21h3 => k_extra "m_len"); (case q21h4 => k_extra "m_len"); (case q21h5 => k_extra "m_len"); (case q21h6 => k_extra "m_len"); (case q21h7 => k_extra "m_len"); (case q21h8 => k_extra "m_len"); (case q21h9 => k_extra "m_len"); (case q21h10 => k_extra "m_len"); k_extra "m_after")))
  (k_with "call_lead" => ((with_reducible show wpAny _ _ (call (Value.ref 95) _) _ _ _); k_dflt (refine' Spec.useT (leading_spec _ _ _ _ _ _ _ _ ?q25hm ?q25h1 ?q25h2 ?q25h3 ?q25h4 ?q25h5 ?q25h6) ?q25B ?q25F ?q25X ?q25N ?q25T ?q25k ?q25d ?q25u ?_; (case q25B => k_asm); (case q25F => k_asm); (case q25X => k_asm); (case q25N => k_asm); (case q25T => k_asm); (case q25k => first | exact rfl | assumption); (case q25d => ktr_room); (case q25u => ktr_units); (case q25hm => k_extra "m_mem"); (case q25h1 => k_extra "m_len"); (case q25h2 => k_extra "m_len"); (case q25h3 => k_extra "m_len"); (case q25h4 => k_extra "m_len"); (case q25h5 => k_extra "m_len"); (case q25h6 => k_extra "m_len"); k_extra "m_afterT")))
  (k_with "call_exponent" => ((with_reducible show wpAny _ _ (call (Value.ref 102) _) _ _ _); k_dflt (refine' Spec.useV (exponent_spec _ _ _ _ _ _ _ ?q26h1 ?q26h2 ?q26h3 ?q26h4) ?q26B ?q26F ?q26X ?q26N ?q26T ?q26k ?q26d ?q26u ?_; (case q26B => k_asm); (case q26F => k_asm); (case q26X => k_asm); (case q26N => k_asm); (case q26T => k_asm); (case q26k => first | exact rfl | assumption); (case q26d => ktr_room); (case q26u => ktr_units); (case q26h4 => k_asm); (case q26h1 => k_extra "m_len"); (case q26h2 => k_extra "m_len"); (case q26h3 => k_extra "m_len"); k_extra "m_after")))
  (k_with "call_exp" => ((with_reducible show wpAny _ _ (call (Value.ref 109) _) _ _ _); k_dflt (refine' Spec.useV (edit_exp_spec _ _ _ _ _ _ _ _ _ _ _ _ _ _ _ _ _ ?q31hm ?q31h1 ?q31h2 ?q31h3 ?q31h4 ?q31h5 ?q31h6 ?q31h7 ?q31h8 ?q31h9 ?q31hz ?q31h10 ?q31h11) ?q31B ?q31F ?q31X ?q31N ?q31T ?q31k ?q31d ?q31u ?_; (case q31B => k_asm); (case q31F => k_asm); (case q31X => k_asm); (case q31N => k_asm); (case q31T => k_asm); (case q31k => first | exact rfl | assumption); (case q31d => ktr_room); (case q31u => ktr_units); (case q31hm => k_extra "m_mem"); (case q31hz => k_asm); (case q31h1 => k_extra "m_len"); (case q31h2 => k_extra "m_len"); (case q31h3 => k_extra "m_len"); (case q31h4 => k_extra "m_len"); (case q31h5 => k_extra "m_len"); (case q31h6 => k_extra "m_len"); (case q31h7 => k_extra "m_len"); (case q31h8 => k_extra "m_len"); (case q31h9 => k_extra "m_len"); (case q31h10 => k_extra "m_len"); (case q31h11 => k_extra "m_len"); k_extra "m_after")))
  (k_with "call_isgen" => ((with_reducible show wpAny _ _ (call (Value.ref 116) _) _ _ _); k_dflt (refine' Spec.useV (is_general_spec _ _ _ _ _ _ _ _ ?q33hm ?q33h1 ?q33h2 ?q33h3 ?q33h4 ?q33h5 ?q33h6) ?q33B ?q33F ?q33X ?q33N ?q33T ?q33k ?q33d ?q33u ?_; (case q33B => k_asm); (case q33F => k_asm); (case q33X => k_asm); (case q33N => k_asm); (case q33T => k_asm); (case q33k => first | exact rfl | assumption); (case q33d => ktr_room); (case q33u => ktr_units); (case q33hm => k_extra "m_mem"); (case q33h1 => k_extra "m_len"); (case q33h2 => k_extra "m_len"); (case q33h3 => k_extra "m_len"); (case q33h4 => k_extra "m_len"); (case q33h5 => k_extra "m_len"); (case q33h6 => k_extra "m_len"); k_extra "m_after")))
  (k_with "call_general" => ((with_reducible show wpAny _ _ (call (Value.ref 123) _) _ _ _); k_dflt (refine' Spec.useV (edit_general_spec _ _ _ _ _ _ _ _ _ _ _ _ _ _ _ ?q40hm ?q40h1 ?q40h2 ?q40h3 ?q40h4 ?q40h5 ?q40h6 ?q40h7 ?q40h8 ?q40hz ?q40h9 ?q40h10) ?q40B ?q40F ?q40X ?q40N ?q40T ?q40k ?q40d ?q40u ?_; (case q40B => k_asm); (case q40F => k_asm); (case q40X => k_asm); (case q40N => k_asm); (case q40T => k_asm); (case q40k => first | exact rfl | assumption); (case q40d => ktr_room); (case q40u => ktr_units); (case q40hm => k_extra "m_mem"); (case q40hz => k_asm); (case q40h1 => k_extra "m_len"); (case q40h2 => k_extra "m_len"); (case q40h3 => k_extra "m_len"); (case q40h4 => k_extra "m_len"); (case q40h5 => k_extra "m_len"); (case q40h6 => k_extra "m_len"); (case q40h7 => k_extra "m_len"); (case q40h8 => k_extra "m_len"); (case q40h9 => k_extra "m_len"); (case q40h10 => k_extra "m_len"); k_extra "m_after")))
  exact True.intro
def edit_real (kind : Nat) (v e places k scale : Int) : Str :=
  if kind = 0 then edit_fixed v e 44 places scale false
  else if kind = 1 then edit_exp (Str.ofString "E") v e 44 places k scale false
  else if kind = 2 then edit_exp (Str.ofString "D") v e 44 places k scale false
  else edit_general v e 44 places k scale false
section
theorem reg_13 : True := by
  (k_with "call ref" => k_extra "call_fixed")
  (k_with "call ref" => k_extra "call_exp")
  (k_with "call ref" => k_extra "call_general")
  exact True.intro
theorem edit_real_len {v e places k scale : Int} {kind : Nat} (hk : 2 ≤ k ∧ k ≤ 3) : ((edit_real kind v e places k scale).length : Int) = 44 := by
  unfold edit_real
  split
  · exact edit_fixed_len (by decide)
  · split
    · exact edit_exp_len (by decide)
    · split
      · exact edit_exp_len (by decide)
      · exact edit_general_len (by omega) (by omega)
theorem edit_real_spec {w : World} (news : Led) (ia a : Addr) (v e : Int) (places k scale : Int) (kind : Nat) (items : List Value) (t1 t2 t5 : Tok) (hm : (a, tup [.int v t1, .int e t2]) ∈ news) (hi : (ia, tup items) ∈ news)
    (hr : ItemR places k kind items) (hk : 2 ≤ k ∧ k ≤ 3)
    (hv : -10 ^ 10 ≤ v) (hv' : v ≤ 10 ^ 10) (he : -15 ≤ e) (he' : e ≤ 10) (hp : 1 ≤ places) (hp' : places ≤ 9) (hs : -places < scale) (hs' : scale ≤ places + 1) :
    Spec w 5 130 news [.ref ia, .ref a, .int scale t5, .bool false] (PS news (edit_real kind v e places k scale) ((edit_real kind v e places k scale).length = (44 : Int))) := by
  cases hr
  all_goals (
    k_extra "m_start"
    k_steps
    all_goals (walk_at "m_retS"; (case g => exact edit_real_len hk); rfl))
end
end
section
theorem reg_14 : True := by
  k_with_none
  (k_with "m_mem" => first | assumption | exact List.Mem.head _ | (refine' List.Mem.tail _ ?_; k_extra "m_mem"))
  (k_with "m_kmem" => assumption)
  (k_with "m_fill" => ((have mfill : PySem.Challenge.rw_no0231_01 = PySem.Challenge.rw_no0231_01 ∧ _root_.Mine.hd.heap_39 = _root_.Mine.hd.heap_39 := by (k_fill; exact ⟨rfl, rfl⟩)); clear mfill))
  (k_with "m_start" => (k_extra "m_fill"; unfold Spec; intros; refine wpAny_call ?_; k_dflt cell_enter))
  (k_with "m_news" => first | with_reducible assumption | (refine cb_drop (by with_reducible assumption) (fun p hp => .tail _ hp)) | (refine cb_drop (by with_reducible assumption) (fun p hp => .tail _ (.tail _ hp))) | (refine cb_drop (by with_reducible assumption) (fun p hp => .tail _ (.tail _ (.tail _ hp)))) | k_asm)
  (k_with "m_ifs" => (repeat' split) <;> first | rfl | (exfalso; first | contradiction | omega | simp_all))
  (k_with "m_after" => (intro t h' tk' ef F9 N9; (try dsimp only); (try k_fold)))
  (k_with "m_afterT" => (intro t ta tb h' tk' ef F9 N9 l1; (try k_lt l1); (try dsimp only); (try k_sweep); (try k_fold)))
  (k_with "m_len" => first | assumption | omega | ((try simp only [Str.length_append, lenA, lenB, lenC, lenD, lenE, lenF, lenG, lenH] at *); omega) | size_fits | l_fact)
  (k_with "call_field" => ((with_reducible show wpAny _ _ (call (Value.ref 60) _) _ _ _); k_dflt (refine' Spec.useV (field_spec _ _ _ _ _ ?q11h1 ?q11h2 ?q11h3) ?q11B ?q11F ?q11X ?q11N ?q11T ?q11k ?q11d ?q11u ?_; (case q11B => k_asm); (case q11F => k_asm); (case q11X => k_asm); (case q11N => k_asm); (case q11T => k_asm); (case q11k => first | exact rfl | assumption); (case q11d => ktr_room); (case q11u => ktr_units); (case q11h1 => k_extra "m_len"); (case q11h2 => k_extra "m_len"); (case q11h3 => k_extra "m_len"); k_extra "m_after")))
  (k_with "call_scaled" => ((with_reducible show wpAny _ _ (call (Value.ref 74) _) _ _ _); k_dflt (refine' Spec.useV (scaled_spec _ _ _ _ _ ?q13h1 ?q13h2 ?q13h3 ?q13h4) ?q13B ?q13F ?q13X ?q13N ?q13T ?q13k ?q13d ?q13u ?_; (case q13B => k_asm); (case q13F => k_asm); (case q13X => k_asm); (case q13N => k_asm); (case q13T => k_asm); (case q13k => first | exact rfl | assumption); (case q13d => ktr_room); (case q13u => ktr_units); (case q13h1 => k_extra "m_len"); (case q13h2 => k_extra "m_len"); (case q13h3 => k_extra "m_len"); (case q13h4 => k_extra "m_len"); k_extra "m_after")))
  (k_with "call_sign" => ((with_reducible show wpAny _ _ (call (Value.ref 67) _) _ _ _); k_dflt (refine' Spec.useV (sign_spec _ _ _) ?q14B ?q14F ?q14X ?q14N ?q14T ?q14k ?q14d ?q14u ?_; (case q14B => k_asm); (case q14F => k_asm); (case q14X => k_asm); (case q14N => k_asm); (case q14T => k_asm); (case q14k => first | exact rfl | assumption); (case q14d => ktr_room); (case q14u => ktr_units); k_extra "m_after")))
  (k_with "call_point" => ((with_reducible show wpAny _ _ (call (Value.ref 81) _) _ _ _); k_dflt (refine' Spec.useV (point_spec _ _ _ _ _ _ _ _ _ ?q15h1 ?q15h2 ?q15h3 ?q15h4 ?q15h5) ?q15B ?q15F ?q15X ?q15N ?q15T ?q15k ?q15d ?q15u ?_; (case q15B => k_asm); (case q15F => k_asm); (case q15X => k_asm); (case q15N => k_asm); (case q15T => k_asm); (case q15k => first | exact rfl | assumption); (case q15d => ktr_room); (case q15u => ktr_units); (case q15h1 => k_extra "m_len"); (case q15h2 => k_extra "m_len"); (case q15h3 => k_extra "m_len"); (case q15h4 => k_extra "m_len"); (case q15h5 => k_extra "m_len"); k_extra "m_after")))
  (k_with "call_str" => ((with_reducible show wpAny _ _ (call (Value.type "str") [Value.int _ _]) _ _ _); refine str_int ?q16h1 ?q16h2 ?_; (case q16h1 => k_extra "m_len"); (case q16h2 => k_extra "m_len"); intro ef; (try dsimp only); (try k_fold)))
  (k_with "call_fixed" => ((with_reducible show wpAny _ _ (call (Value.ref 88) _) _ _ _); k_dflt (refine' Spec.useV (edit_fixed_spec _ _ _ _ _ _ _ _ _ _ _ _ _ ?q21hm ?q21h1 ?q21h2 ?q21h3 ?q21h4 ?q21h5 ?q21h6 ?q21h7 ?q21h8 ?q21h9 ?q21h10) ?q21B ?q21F ?q21X ?q21N ?q21T ?q21k ?q21d ?q21u ?_; (case q21B => k_asm); (case q21F => k_asm); (case q21X => k_asm); (case q21N => k_asm); (case q21T => k_asm); (case q21k => first | exact rfl | assumption); (case q21d => ktr_room); (case q21u => ktr_units); (case q21hm => k_extra "m_mem"); (case q21h1 => k_extra "m_len"); (case q21h2 => k_extra "m_len"); (case q21h3 => k_extra "m_len"); (case q21h4 => k_extra "m_len"); (case q21h5 => k_extra "m_len"); (case q21h6 => k_extra "m_len"); (case q21h7 => k_extra "m_len"); (case q21h8 => k_extra "m_len"); (case q21h9 => k_extra "m_len"); (case q21h10 => k_extra "m_len"); k_extra "m_after")))
  (k_with "call_lead" => ((with_reducible show wpAny _ _ (call (Value.ref 95) _) _ _ _); k_dflt (refine' Spec.useT (leading_spec _ _ _ _ _ _ _ _ ?q25hm ?q25h1 ?q25h2 ?q25h3 ?q25h4 ?q25h5 ?q25h6) ?q25B ?q25F ?q25X ?q25N ?q25T ?q25k ?q25d ?q25u ?_; (case q25B => k_asm); (case q25F => k_asm); (case q25X => k_asm); (case q25N => k_asm); (case q25T => k_asm); (case q25k => first | exact rfl | assumption); (case q25d => ktr_room); (case q25u => ktr_units); (case q25hm => k_extra "m_mem"); (case q25h1 => k_extra "m_len"); (case q25h2 => k_extra "m_len"); (case q25h3 => k_extra "m_len"); (case q25h4 => k_extra "m_len"); (case q25h5 => k_extra "m_len"); (case q25h6 => k_extra "m_len"); k_extra "m_afterT")))
  (k_with "call_exponent" => ((with_reducible show wpAny _ _ (call (Value.ref 102) _) _ _ _); k_dflt (refine' Spec.useV (exponent_spec _ _ _ _ _ _ _ ?q26h1 ?q26h2 ?q26h3 ?q26h4) ?q26B ?q26F ?q26X ?q26N ?q26T ?q26k ?q26d ?q26u ?_; (case q26B => k_asm); (case q26F => k_asm); (case q26X => k_asm); (case q26N => k_asm); (case q26T => k_asm); (case q26k => first | exact rfl | assumption); (case q26d => ktr_room); (case q26u => ktr_units); (case q26h4 => k_asm); (case q26h1 => k_extra "m_len"); (case q26h2 => k_extra "m_len"); (case q26h3 => k_extra "m_len"); k_extra "m_after")))
  (k_with "call_exp" => ((with_reducible show wpAny _ _ (call (Value.ref 109) _) _ _ _); k_dflt (refine' Spec.useV (edit_exp_spec _ _ _ _ _ _ _ _ _ _ _ _ _ _ _ _ _ ?q31hm ?q31h1 ?q31h2 ?q31h3 ?q31h4 ?q31h5 ?q31h6 ?q31h7 ?q31h8 ?q31h9 ?q31hz ?q31h10 ?q31h11) ?q31B ?q31F ?q31X ?q31N ?q31T ?q31k ?q31d ?q31u ?_; (case q31B => k_asm); (case q31F => k_asm); (case q31X => k_asm); (case q31N => k_asm); (case q31T => k_asm); (case q31k => first | exact rfl | assumption); (case q31d => ktr_room); (case q31u => ktr_units); (case q31hm => k_extra "m_mem"); (case q31hz => k_asm); (case q31h1 => k_extra "m_len"); (case q31h2 => k_extra "m_len"); (case q31h3 => k_extra "m_len"); (case q31h4 => k_extra "m_len"); (case q31h5 => k_extra "m_len"); (case q31h6 => k_extra "m_len"); (case q31h7 => k_extra "m_len"); (case q31h8 => k_extra "m_len"); (case q31h9 => k_extra "m_len"); (case q31h10 => k_extra "m_len"); (case q31h11 => k_extra "m_len"); k_extra "m_after")))
  (k_with "call_isgen" => ((with_reducible show wpAny _ _ (call (Value.ref 116) _) _ _ _); k_dflt (refine' Spec.useV (is_general_spec _ _ _ _ _ _ _ _ ?q33hm ?q33h1 ?q33h2 ?q33h3 ?q33h4 ?q33h5 ?q33h6) ?q33B ?q33F ?q33X ?q33N ?q33T ?q33k ?q33d ?q33u ?_; (case q33B => k_asm); (case q33F => k_asm); (case q33X => k_asm); (case q33N => k_asm); (case q33T => k_asm); (case q33k => first | exact rfl | assumption); (case q33d => ktr_room); (case q33u => ktr_units); (case q33hm => k_extra "m_mem"); (case q33h1 => k_extra "m_len"); (case q33h2 => k_extra "m_len"); (case q33h3 => k_extra "m_len"); (case q33h4 => k_extra "m_len"); (case q33h5 => k_extra "m_len"); (case q33h6 => k_extra "m_len"); k_extra "m_after")))
  (k_with "call_general" => ((with_reducible show wpAny _ _ (call (Value.ref 123) _) _ _ _); k_dflt (refine' Spec.useV (edit_general_spec _ _ _ _ _ _ _ _ _ _ _ _ _ _ _ ?q40hm ?q40h1 ?q40h2 ?q40h3 ?q40h4 ?q40h5 ?q40h6 ?q40h7 ?q40h8 ?q40hz ?q40h9 ?q40h10) ?q40B ?q40F ?q40X ?q40N ?q40T ?q40k ?q40d ?q40u ?_; (case q40B => k_asm); (case q40F => k_asm); (case q40X => k_asm); (case q40N => k_asm); (case q40T => k_asm); (case q40k => first | exact rfl | assumption); (case q40d => ktr_room); (case q40u => ktr_units); (case q40hm => k_extra "m_mem"); (case q40hz => k_asm); (case q40h1 => k_extra "m_len"); (case q40h2 => k_extra "m_len"); (case q40h3 => k_extra "m_len"); (case q40h4 => k_extra "m_len"); (case q40h5 => k_extra "m_len"); (case q40h6 => k_extra "m_len"); (case q40h7 => k_extra "m_len"); (case q40h8 => k_extra "m_len"); (case q40h9 => k_extra "m_len"); (case q40h10 => k_extra "m_len"); k_extra "m_after")))
  (k_with "call_real" => ((with_reducible show wpAny _ _ (call (Value.ref 130) _) _ _ _); k_dflt (refine' Spec.useV (edit_real_spec _ _ _ _ _ _ _ _ _ _ _ _ _ ?q44hm ?q44hi ?q44hr ?q44hk ?q44h1 ?q44h2 ?q44h3 ?q44h4 ?q44h5 ?q44h6 ?q44h7 ?q44h8) ?q44B ?q44F ?q44X ?q44N ?q44T ?q44k ?q44d ?q44u ?_; (case q44B => k_asm); (case q44F => k_asm); (case q44X => k_asm); (case q44N => k_asm); (case q44T => k_asm); (case q44k => first | exact rfl | assumption); (case q44d => ktr_room); (case q44u => ktr_units); (case q44hm => k_extra "m_mem"); (case q44hr => assumption); (case q44hi => k_extra "m_mem"); (case q44hk => k_asm); (case q44h1 => k_extra "m_len"); (case q44h2 => k_extra "m_len"); (case q44h3 => k_extra "m_len"); (case q44h4 => k_extra "m_len"); (case q44h5 => k_extra "m_len"); (case q44h6 => k_extra "m_len"); (case q44h7 => k_extra "m_len"); (case q44h8 => k_extra "m_len"); k_extra "m_after")))
  exact True.intro
theorem bits_le {a : Int} (h1 : -10 ^ 600 ≤ a) (h2 : a ≤ 10 ^ 600) : Builtin.Int.intBits a ≤ 2 ^ 20 := by
  unfold Builtin.Int.intBits
  split
  · exact Nat.zero_le _
  · have hn : a.natAbs < 2 ^ 4000 := Nat.lt_of_le_of_lt (show a.natAbs ≤ 10 ^ 600 by omega) (by decide +kernel)
    have : a.natAbs.log2 < 4000 := by
      rcases Nat.eq_zero_or_pos a.natAbs with h0 | hp
      · rw [h0]; decide
      · exact (Nat.log2_lt (by omega)).mpr hn
    have e : (2 : Nat) ^ 20 = 1048576 := by decide
    omega
theorem bits_pow {k : Nat} (h : k ≤ 600) : Builtin.Int.intBits (10 ^ k) ≤ 2 ^ 20 := by
  have h1 := pow10_le h
  have h2 := pow10_pos k
  exact bits_le (by omega) h1
theorem mul_bound {v : Int} {k : Nat} (h1 : -10 ^ 70 ≤ v) (h2 : v ≤ 10 ^ 70) (hk : k ≤ 400) : -10 ^ 470 ≤ v * 10 ^ k ∧ v * 10 ^ k ≤ 10 ^ 470 := by
  have h3 := pow10_le hk
  have h4 := pow10_pos k
  constructor
  · have : v * 10 ^ k ≥ -10 ^ 70 * 10 ^ k := Int.mul_le_mul_of_nonneg_right h1 (Int.le_of_lt h4)
    have : (10 : Int) ^ 70 * 10 ^ k ≤ 10 ^ 70 * 10 ^ 400 := Int.mul_le_mul_of_nonneg_left h3 (by decide)
    rw [Int.neg_mul] at *
    have e : (10 : Int) ^ 70 * 10 ^ 400 = 10 ^ 470 := by rw [← Int.pow_add]
    omega
  · have : v * 10 ^ k ≤ 10 ^ 70 * 10 ^ k := Int.mul_le_mul_of_nonneg_right h2 (Int.le_of_lt h4)
    have : (10 : Int) ^ 70 * 10 ^ k ≤ 10 ^ 70 * 10 ^ 400 := Int.mul_le_mul_of_nonneg_left h3 (by decide)
    have e : (10 : Int) ^ 70 * 10 ^ 400 = 10 ^ 470 := by rw [← Int.pow_add]
    omega
def lessL (e e2 : Int) : Int := if e2 < e then e2 else e
def lessD (v e v2 e2 : Int) : Int := v * 10 ^ (e - lessL e e2).toNat - v2 * 10 ^ (e2 - lessL e e2).toNat
theorem less_facts {v e v2 e2 : Int} (hv : -10 ^ 70 ≤ v) (hv' : v ≤ 10 ^ 70) (he : -200 ≤ e) (he' : e ≤ 200) (hw : -10 ^ 70 ≤ v2) (hw' : v2 ≤ 10 ^ 70) (hf : -200 ≤ e2) (hf' : e2 ≤ 200) :
    -10 ^ 480 ≤ lessD v e v2 e2 ∧ lessD v e v2 e2 ≤ 10 ^ 480 ∧ lessL e e2 ≤ e ∧ -200 ≤ lessL e e2 := by
  have hl : lessL e e2 ≤ e ∧ lessL e e2 ≤ e2 ∧ -200 ≤ lessL e e2 := by unfold lessL; split <;> omega
  have h1 := mul_bound (k := (e - lessL e e2).toNat) hv hv' (by omega)
  have h2 := mul_bound (k := (e2 - lessL e e2).toNat) hw hw' (by omega)
  unfold lessD
  refine ⟨?_, ?_, hl.1, hl.2.2⟩ <;> omega
section
theorem reg_15 : True := by
  (k_with "binaryOp Mult int int" => (refine mul_int ?_ (IntMulOk.of_bits (bits_le ?q45a ?q45b) (bits_pow ?q45c)); (case q45a => omega); (case q45b => omega); (case q45c => omega)))
  (k_with "binaryOp Pow int int" => (refine pow_int_small ?q46a ?q46b ?q46c ?_; (case q46a => omega); (case q46b => omega); (case q46c => decide)))
  exact True.intro
theorem less_spec {w : World} (news : Led) (a b : Addr) (v e v2 e2 : Int) (t1 t2 t3 t4 : Tok) (hm : (a, tup [.int v t1, .int e t2]) ∈ news) (hm2 : (b, tup [.int v2 t3, .int e2 t4]) ∈ news)
    (hv : -10 ^ 70 ≤ v) (hv' : v ≤ 10 ^ 70) (he : -200 ≤ e) (he' : e ≤ 200) (hw : -10 ^ 70 ≤ v2) (hw' : v2 ≤ 10 ^ 70) (hf : -200 ≤ e2) (hf' : e2 ≤ 200) :
    Spec w 1 158 news [.ref a, .ref b] (PT news (fun ta tb => [.int (lessD v e v2 e2) ta, .int (lessL e e2) tb]) (-10 ^ 480 ≤ lessD v e v2 e2 ∧ lessD v e v2 e2 ≤ 10 ^ 480 ∧ lessL e e2 ≤ e ∧ -200 ≤ lessL e e2)) := by
  k_extra "m_start"
  k_steps
  all_goals (walk_at "m_retII"; (case g => exact less_facts hv hv' he he' hw hw' hf hf'); (case e1 => rfl); (case e2 => rfl))
end
theorem reg_16 : True := by
  (k_with "call_less" => ((with_reducible show wpAny _ _ (call (Value.ref 158) _) _ _ _); k_dflt (refine' Spec.useT (less_spec _ _ _ _ _ _ _ _ _ _ _ ?q47hm ?q47hm2 ?q47h1 ?q47h2 ?q47h3 ?q47h4 ?q47h5 ?q47h6 ?q47h7 ?q47h8) ?q47B ?q47F ?q47X ?q47N ?q47T ?q47k ?q47d ?q47u ?_; (case q47B => k_asm); (case q47F => k_asm); (case q47X => k_asm); (case q47N => k_asm); (case q47T => k_asm); (case q47k => first | exact rfl | assumption); (case q47d => ktr_room); (case q47u => ktr_units); (case q47hm => k_extra "m_mem"); (case q47hm2 => k_extra "m_mem"); (case q47h1 => k_extra "m_len"); (case q47h2 => k_extra "m_len"); (case q47h3 => k_extra "m_len"); (case q47h4 => k_extra "m_len"); (case q47h5 => k_extra "m_len"); (case q47h6 => k_extra "m_len"); (case q47h7 => k_extra "m_len"); (case q47h8 => k_extra "m_len"); k_extra "m_afterT")))
  exact True.intro
def is_near (v e v2 e2 : Int) : Bool := decide (2 * (if lessD v e v2 e2 < 0 then -lessD v e v2 e2 else lessD v e v2 e2) ≤ 10 ^ (e - lessL e e2).toNat)
section
theorem reg_17 : True := by
  (k_with "call ref" => k_extra "call_less")
  (k_with "binaryOp Pow int int" => (refine pow_int_small ?q49a ?q49b ?q49c ?_; (case q49a => omega); (case q49b => omega); (case q49c => decide)))
  exact True.intro
theorem near_spec {w : World} (news : Led) (a b : Addr) (v e v2 e2 : Int) (t1 t2 t3 t4 : Tok) (hm : (a, tup [.int v t1, .int e t2]) ∈ news) (hm2 : (b, tup [.int v2 t3, .int e2 t4]) ∈ news)
    (hv : -10 ^ 70 ≤ v) (hv' : v ≤ 10 ^ 70) (he : -200 ≤ e) (he' : e ≤ 200) (hw : -10 ^ 70 ≤ v2) (hw' : v2 ≤ 10 ^ 70) (hf : -200 ≤ e2) (hf' : e2 ≤ 200) :
    Spec w 2 165 news [.ref a, .ref b] (PB news (is_near v e v2 e2) True) := by
  k_extra "m_start"
  k_steps
  all_goals (walk_at "m_retB"; (case g => trivial); rfl)
end
section
open PySem.Builtin PySem.Builtin.Str
def replace1 (x y z : Str) : Str :=
  if ((occurrences x y 0 x.length 1).isEmpty || (y.length == 0 && z.length == 0)) = true then x
  else glued z (partsBetween x (occurrences x y 0 x.length 1) y.length)
theorem replace1_len {x y z : Str} (h : y.length = z.length) : (replace1 x y z).length = x.length := by
  unfold replace1
  split
  · rfl
  · have e := StrLaws.glued_between_self x y 1
    have e2 := congrArg Str.length e
    rw [size_glued] at e2
    rw [size_glued, ← h, e2]
theorem gives_replace1 (x y z : Str) (t u v k : Tok) (h0 : (u == 0 || v == 0) = false) (huv : (u == v) = false) (hyz : (y == z) = false) (hl : tooLong (x.length + (occurrences x y 0 x.length 1).length * z.length) = false) :
    Gives («str.replace» ⟨[.str x t, .str y u, .str z v, .int 1 k], []⟩) (if ((occurrences x y 0 x.length 1).isEmpty || (y.length == 0 && z.length == 0)) = true then .val (.str x t) else .str (glued z (partsBetween x (occurrences x y 0 x.length 1) y.length))) := by
  show Gives (if ((occurrences x y 0 x.length 1).isEmpty || (y.length == 0 && z.length == 0)) = true then (do rule "str.replace.nothing"; ret (.str x t)) else
          (do let same ← isSame (.str y u) (.str z v)
              if same = true then (do rule "str.replace.old-is-new"; ret (.str x t)) else
              if tooLong (x.length + (occurrences x y 0 x.length 1).length * z.length) = true then unsupported "str.replace:memory" else
              retStr (glued z (partsBetween x (occurrences x y 0 x.length 1) y.length)))) _
  cases hc : ((occurrences x y 0 x.length 1).isEmpty || (y.length == 0 && z.length == 0))
  · rw [isSame_str_other y z u v h0 huv hyz, hl]
    exact .of_eq rfl
  · exact .rule (.of_eq rfl)
theorem replace1_rule {prog : Program} {w : World} {A : Around} {E : Value → Shared → Prop} {s : Shared} {x y z : Str} {t u v k : Tok} {Q : Value → Shared → Prop} (hu : u ≠ 0) (hv : v ≠ 0) (huv : u ≠ v) (hyz : (y == z) = false) (hyl : y.length = 1) (hzl : z.length = 1) (hb : x.length ≤ 1000000)
    (hq : ∀ t' k, Q (.str (replace1 x y z) t') { s with toks := k }) : wpAny (model prog w) A (call (.builtin "str.replace") [.str x t, .str y u, .str z v, .int 1 k]) Q E s := by
  have hl : tooLong (x.length + (occurrences x y 0 x.length 1).length * z.length) = false := by
    have h1 := StrLaws.occ_length_le x y 0 x.length 1
    have h2 : (occurrences x y 0 x.length 1).length * z.length ≤ 1 * z.length := Nat.mul_le_mul_right _ h1
    unfold tooLong
    rw [sizeLine_eq]
    exact decide_eq_false (by omega)
  refine call_gives F.slot_str_replace (typeIs_str _ _ _) F.entry_str_replace (F.args_str_replace_4 _ _ _ _)
    (gives_replace1 x y z t u v k (by simp [hu, hv]) (by simp [huv]) hyz hl) ?_
  have hln := replace1_len (x := x) (hyl.trans hzl.symm)
  have hq' := hq
  unfold replace1 at hq' hln
  cases hc : ((occurrences x y 0 x.length 1).isEmpty || (y.length == 0 && z.length == 0))
  · rw [hc] at hq' hln
    simp only [Bool.false_eq_true, if_false] at hq' hln ⊢
    exact ⟨by rw [sizeLine_eq]; omega, hq' _ _⟩
  · rw [hc] at hq'
    simp only [if_true] at hq' ⊢
    exact hq' t s.toks
end
def turned (x : Str) : Str := if (Txt.item (Txt.strip x) 0 == Str.ofString "-") = true then replace1 x (Str.ofString "-") (Str.ofString " ") else x
theorem turned_len {x : Str} : (turned x).length = x.length := by
  unfold turned
  split
  · exact replace1_len (lenE.trans lenG.symm)
  · rfl
section
theorem reg_18 : True := by
  (k_with "call builtin:str.replace" => (refine replace1_rule ?q50a ?q50b ?q50c ?q50d ?q50e ?q50f ?q50g ?_; (case q50a => exact Nat.succ_ne_zero _); (case q50b => exact Nat.succ_ne_zero _); (case q50c => exact Nat.ne_of_lt (Nat.lt_succ_self _)); (case q50d => decide +kernel); (case q50e => exact lenE); (case q50f => exact lenG); (case q50g => omega); intro t' k'; (try dsimp only); (try k_fold)))
  exact True.intro
theorem turned_spec {w : World} (news : Led) (x : Str) (t1 : Tok) (hl : x.length = 44) (hs : 1 ≤ (Txt.strip x).length) :
    Spec w 1 172 news [.str x t1] (PS news (turned x) ((turned x).length = 44)) := by
  k_extra "m_start"
  k_steps
  all_goals (walk_at "m_retS"; (case g => exact turned_len.trans hl); unfold turned; first | (rw [if_pos (by with_reducible assumption)]; done) | (rw [if_neg (show ¬ _ = true from ne_true_of_eq_false (by with_reducible assumption))]; done))
end
end
section
abbrev pen (sa : Addr) (at_ : Int) (t : Tok) : Obj := W.listOf #[.ref sa, .int at_ t] 0
theorem reg_19 : True := by
  k_with_none
  (k_with "m_mem" => first | assumption | exact List.Mem.head _ | (refine' List.Mem.tail _ ?_; k_extra "m_mem"))
  (k_with "m_kmem" => assumption)
  (k_with "m_fill" => ((have mfill : PySem.Challenge.rw_no0231_01 = PySem.Challenge.rw_no0231_01 ∧ _root_.Mine.hd.heap_39 = _root_.Mine.hd.heap_39 := by (k_fill; exact ⟨rfl, rfl⟩)); clear mfill))
  (k_with "m_start" => (k_extra "m_fill"; unfold Spec; intros; refine wpAny_call ?_; k_dflt cell_enter))
  (k_with "m_news" => first | with_reducible assumption | (refine cb_drop (by with_reducible assumption) (fun p hp => .tail _ hp)) | (refine cb_drop (by with_reducible assumption) (fun p hp => .tail _ (.tail _ hp))) | (refine cb_drop (by with_reducible assumption) (fun p hp => .tail _ (.tail _ (.tail _ hp)))) | k_asm)
  (k_with "m_ifs" => (repeat' split) <;> first | rfl | (exfalso; first | contradiction | omega | simp_all))
  (k_with "m_after" => (intro t h' tk' ef F9 N9; (try dsimp only); (try k_fold)))
  (k_with "m_afterT" => (intro t ta tb h' tk' ef F9 N9 l1; (try k_lt l1); (try dsimp only); (try k_sweep); (try k_fold)))
  (k_with "m_len" => first | assumption | omega | ((try simp only [Str.length_append, lenA, lenB, lenC, lenD, lenE, lenF, lenG, lenH] at *); omega) | size_fits | l_fact)
  (k_with "call_field" => ((with_reducible show wpAny _ _ (call (Value.ref 60) _) _ _ _); k_dflt (refine' Spec.useV (field_spec _ _ _ _ _ ?q11h1 ?q11h2 ?q11h3) ?q11B ?q11F ?q11X ?q11N ?q11T ?q11k ?q11d ?q11u ?_; (case q11B => k_asm); (case q11F => k_asm); (case q11X => k_asm); (case q11N => k_asm); (case q11T => k_asm); (case q11k => first | exact rfl | assumption); (case q11d => ktr_room); (case q11u => ktr_units); (case q11h1 => k_extra "m_len"); (case q11h2 => k_extra "m_len"); (case q11h3 => k_extra "m_len"); k_extra "m_after")))
  (k_with "call_scaled" => ((with_reducible show wpAny _ _ (call (Value.ref 74) _) _ _ _); k_dflt (refine' Spec.useV (scaled_spec _ _ _ _ _ ?q13h1 ?q13h2 ?q13h3 ?q13h4) ?q13B ?q13F ?q13X ?q13N ?q13T ?q13k ?q13d ?q13u ?_; (case q13B => k_asm); (case q13F => k_asm); (case q13X => k_asm); (case q13N => k_asm); (case q13T => k_asm); (case q13k => first | exact rfl | assumption); (case q13d => ktr_room); (case q13u => ktr_units); (case q13h1 => k_extra "m_len"); (case q13h2 => k_extra "m_len"); (case q13h3 => k_extra "m_len"); (case q13h4 => k_extra "m_len"); k_extra "m_after")))
  (k_with "call_sign" => ((with_reducible show wpAny _ _ (call (Value.ref 67) _) _ _ _); k_dflt (refine' Spec.useV (sign_spec _ _ _) ?q14B ?q14F ?q14X ?q14N ?q14T ?q14k ?q14d ?q14u ?_; (case q14B => k_asm); (case q14F => k_asm); (case q14X => k_asm); (case q14N => k_asm); (case q14T => k_asm); (case q14k => first | exact rfl | assumption); (case q14d => ktr_room); (case q14u => ktr_units); k_extra "m_after")))
  (k_with "call_point" => ((with_reducible show wpAny _ _ (call (Value.ref 81) _) _ _ _); k_dflt (refine' Spec.useV (point_spec _ _ _ _ _ _ _ _ _ ?q15h1 ?q15h2 ?q15h3 ?q15h4 ?q15h5) ?q15B ?q15F ?q15X ?q15N ?q15T ?q15k ?q15d ?q15u ?_; (case q15B => k_asm); (case q15F => k_asm); (case q15X => k_asm); (case q15N => k_asm); (case q15T => k_asm); (case q15k => first | exact rfl | assumption); (case q15d => ktr_room); (case q15u => ktr_units); (case q15h1 => k_extra "m_len"); (case q15h2 => k_extra "m_len"); (case q15h3 => k_extra "m_len"); (case q15h4 => k_extra "m_len"); (case q15h5 => k_extra "m_len"); k_extra "m_after")))
  (k_with "call_str" => ((with_reducible show wpAny _ _ (call (Value.type "str") [Value.int _ _]) _ _ _); refine str_int ?q16h1 ?q16h2 ?_; (case q16h1 => k_extra "m_len"); (case q16h2 => k_extra "m_len"); intro ef; (try dsimp only); (try k_fold)))
  (k_with "call_fixed" => ((with_reducible show wpAny _ _ (call (Value.ref 88) _) _ _ _); k_dflt (refine' Spec.useV (edit_fixed_spec _ _ _ _ _ _ _ _ _ _ _ _ _ ?q21hm ?q21h1 ?q21h2 ?q21h3 ?q21h4 ?q21h5 ?q21h6 ?q21h7 ?q21h8 ?q21h9 ?q21h10) ?q21B ?q21F ?q21X ?q21N ?q21T ?q21k ?q21d ?q21u ?_; (case q21B => k_asm); (case q21F => k_asm); (case q21X => k_asm); (case q21N => k_asm); (case q21T => k_asm); (case q21k => first | exact rfl | assumption); (case q21d => ktr_room); (case q21u => ktr_units); (case q21hm => k_extra "m_mem"); (case q21h1 => k_extra "m_len"); (case q21h2 => k_extra "m_len"); (case q21h3 => k_extra "m_len"); (case q21h4 => k_extra "m_len"); (case q21h5 => k_extra "m_len"); (case q21h6 => k_extra "m_len"); (case q21h7 => k_extra "m_len"); (case q21h8 => k_extra "m_len"); (case q21h9 => k_extra "m_len"); (case q21h10 => k_extra "m_len"); k_extra "m_after")))
  (k_with "call_lead" => ((with_reducible show wpAny _ _ (call (Value.ref 95) _) _ _ _); k_dflt (refine' Spec.useT (leading_spec _ _ _ _ _ _ _ _ ?q25hm ?q25h1 ?q25h2 ?q25h3 ?q25h4 ?q25h5 ?q25h6) ?q25B ?q25F ?q25X ?q25N ?q25T ?q25k ?q25d ?q25u ?_; (case q25B => k_asm); (case q25F => k_asm); (case q25X => k_asm); (case q25N => k_asm); (case q25T => k_asm); (case q25k => first | exact rfl | assumption); (case q25d => ktr_room); (case q25u => ktr_units); (case q25hm => k_extra "m_mem"); (case q25h1 => k_extra "m_len"); (case q25h2 => k_extra "m_len"); (case q25h3 => k_extra "m_len"); (case q25h4 => k_extra "m_len"); (case q25h5 => k_extra "m_len"); (case q25h6 => k_extra "m_len"); k_extra "m_afterT")))
  (k_with "call_exponent" => ((with_reducible show wpAny _ _ (call (Value.ref 102) _) _ _ _); k_dflt (refine' Spec.useV (exponent_spec _ _ _ _ _ _ _ ?q26h1 ?q26h2 ?q26h3 ?q26h4) ?q26B ?q26F ?q26X ?q26N ?q26T ?q26k ?q26d ?q26u ?_; (case q26B => k_asm); (case q26F => k_asm); (case q26X => k_asm); (case q26N => k_asm); (case q26T => k_asm); (case q26k => first | exact rfl | assumption); (case q26d => ktr_room); (case q26u => ktr_units); (case q26h4 => k_asm); (case q26h1 => k_extra "m_len"); (case q26h2 => k_extra "m_len"); (case q26h3 => k_extra "m_len"); k_extra "m_after")))
  (k_with "call_exp" => ((with_reducible show wpAny _ _ (call (Value.ref 109) _) _ _ _); k_dflt (refine' Spec.useV (edit_exp_spec _ _ _ _ _ _ _ _ _ _ _ _ _ _ _ _ _ ?q31hm ?q31h1 ?q31h2 ?q31h3 ?q31h4 ?q31h5 ?q31h6 ?q31h7 ?q31h8 ?q31h9 ?q31hz ?q31h10 ?q31h11) ?q31B ?q31F ?q31X ?q31N ?q31T ?q31k ?q31d ?q31u ?_; (case q31B => k_asm); (case q31F => k_asm); (case q31X => k_asm); (case q31N => k_asm); (case q31T => k_asm); (case q31k => first | exact rfl | assumption); (case q31d => ktr_room); (case q31u => ktr_units); (case q31hm => k_extra "m_mem"); (case q31hz => k_asm); (case q31h1 => k_extra "m_len"); (case q31h2 => k_extra "m_len"); (case q31h3 => k_extra "m_len"); (case q31h4 => k_extra "m_len"); (case q31h5 => k_extra "m_len"); (case q31h6 => k_extra "m_len"); (case q31h7 => k_extra "m_len"); (case q31h8 => k_extra "m_len"); (case q31h9 => k_extra "m_len"); (case q31h10 => k_extra "m_len"); (case q31h11 => k_extra "m_len"); k_extra "m_after")))
  (k_with "call_isgen" => ((with_reducible show wpAny _ _ (call (Value.ref 116) _) _ _ _); k_dflt (refine' Spec.useV (is_general_spec _ _ _ _ _ _ _ _ ?q33hm ?q33h1 ?q33h2 ?q33h3 ?q33h4 ?q33h5 ?q33h6) ?q33B ?q33F ?q33X ?q33N ?q33T ?q33k ?q33d ?q33u ?_; (case q33B => k_asm); (case q33F => k_asm); (case q33X => k_asm); (case q33N => k_asm); (case q33T => k_asm); (case q33k => first | exact rfl | assumption); (case q33d => ktr_room); (case q33u => ktr_units); (case q33hm => k_extra "m_mem"); (case q33h1 => k_extra "m_len"); (case q33h2 => k_extra "m_len"); (case q33h3 => k_extra "m_len"); (case q33h4 => k_extra "m_len"); (case q33h5 => k_extra "m_len"); (case q33h6 => k_extra "m_len"); k_extra "m_after")))
  (k_with "call_general" => ((with_reducible show wpAny _ _ (call (Value.ref 123) _) _ _ _); k_dflt (refine' Spec.useV (edit_general_spec _ _ _ _ _ _ _ _ _ _ _ _ _ _ _ ?q40hm ?q40h1 ?q40h2 ?q40h3 ?q40h4 ?q40h5 ?q40h6 ?q40h7 ?q40h8 ?q40hz ?q40h9 ?q40h10) ?q40B ?q40F ?q40X ?q40N ?q40T ?q40k ?q40d ?q40u ?_; (case q40B => k_asm); (case q40F => k_asm); (case q40X => k_asm); (case q40N => k_asm); (case q40T => k_asm); (case q40k => first | exact rfl | assumption); (case q40d => ktr_room); (case q40u => ktr_units); (case q40hm => k_extra "m_mem"); (case q40hz => k_asm); (case q40h1 => k_extra "m_len"); (case q40h2 => k_extra "m_len"); (case q40h3 => k_extra "m_len"); (case q40h4 => k_extra "m_len"); (case q40h5 => k_extra "m_len"); (case q40h6 => k_extra "m_len"); (case q40h7 => k_extra "m_len"); (case q40h8 => k_extra "m_len"); (case q40h9 => k_extra "m_len"); (case q40h10 => k_extra "m_len"); k_extra "m_after")))
  (k_with "call_real" => ((with_reducible show wpAny _ _ (call (Value.ref 130) _) _ _ _); k_dflt (refine' Spec.useV (edit_real_spec _ _ _ _ _ _ _ _ _ _ _ _ _ ?q44hm ?q44hi ?q44hr ?q44hk ?q44h1 ?q44h2 ?q44h3 ?q44h4 ?q44h5 ?q44h6 ?q44h7 ?q44h8) ?q44B ?q44F ?q44X ?q44N ?q44T ?q44k ?q44d ?q44u ?_; (case q44B => k_asm); (case q44F => k_asm); (case q44X => k_asm); (case q44N => k_asm); (case q44T => k_asm); (case q44k => first | exact rfl | assumption); (case q44d => ktr_room); (case q44u => ktr_units); (case q44hm => k_extra "m_mem"); (case q44hr => assumption); (case q44hi => k_extra "m_mem"); (case q44hk => k_asm); (case q44h1 => k_extra "m_len"); (case q44h2 => k_extra "m_len"); (case q44h3 => k_extra "m_len"); (case q44h4 => k_extra "m_len"); (case q44h5 => k_extra "m_len"); (case q44h6 => k_extra "m_len"); (case q44h7 => k_extra "m_len"); (case q44h8 => k_extra "m_len"); k_extra "m_after")))
  (k_with "call_less" => ((with_reducible show wpAny _ _ (call (Value.ref 158) _) _ _ _); k_dflt (refine' Spec.useT (less_spec _ _ _ _ _ _ _ _ _ _ _ ?q47hm ?q47hm2 ?q47h1 ?q47h2 ?q47h3 ?q47h4 ?q47h5 ?q47h6 ?q47h7 ?q47h8) ?q47B ?q47F ?q47X ?q47N ?q47T ?q47k ?q47d ?q47u ?_; (case q47B => k_asm); (case q47F => k_asm); (case q47X => k_asm); (case q47N => k_asm); (case q47T => k_asm); (case q47k => first | exact rfl | assumption); (case q47d => ktr_room); (case q47u => ktr_units); (case q47hm => k_extra "m_mem"); (case q47hm2 => k_extra "m_mem"); (case q47h1 => k_extra "m_len"); (case q47h2 => k_extra "m_len"); (case q47h3 => k_extra "m_len"); (case q47h4 => k_extra "m_len"); (case q47h5 => k_extra "m_len"); (case q47h6 => k_extra "m_len"); (case q47h7 => k_extra "m_len"); (case q47h8 => k_extra "m_len"); k_extra "m_afterT")))
  (k_with "call_near" => ((with_reducible show wpAny _ _ (call (Value.ref 165) _) _ _ _); k_dflt (refine' Spec.useV (near_spec _ _ _ _ _ _ _ _ _ _ _ ?q51hm ?q51hm2 ?q51h1 ?q51h2 ?q51h3 ?q51h4 ?q51h5 ?q51h6 ?q51h7 ?q51h8) ?q51B ?q51F ?q51X ?q51N ?q51T ?q51k ?q51d ?q51u ?_; (case q51B => k_asm); (case q51F => k_asm); (case q51X => k_asm); (case q51N => k_asm); (case q51T => k_asm); (case q51k => first | exact rfl | assumption); (case q51d => ktr_room); (case q51u => ktr_units); (case q51hm => k_extra "m_mem"); (case q51hm2 => k_extra "m_mem"); (case q51h1 => k_extra "m_len"); (case q51h2 => k_extra "m_len"); (case q51h3 => k_extra "m_len"); (case q51h4 => k_extra "m_len"); (case q51h5 => k_extra "m_len"); (case q51h6 => k_extra "m_len"); (case q51h7 => k_extra "m_len"); (case q51h8 => k_extra "m_len"); k_extra "m_after")))
  (k_with "call_turned" => ((with_reducible show wpAny _ _ (call (Value.ref 172) _) _ _ _); k_dflt (refine' Spec.useV (turned_spec _ _ _ ?q52h1 ?q52h2) ?q52B ?q52F ?q52X ?q52N ?q52T ?q52k ?q52d ?q52u ?_; (case q52B => k_asm); (case q52F => k_asm); (case q52X => k_asm); (case q52N => k_asm); (case q52T => k_asm); (case q52k => first | exact rfl | assumption); (case q52d => ktr_room); (case q52u => ktr_units); (case q52h1 => k_extra "m_len"); (case q52h2 => k_extra "m_len"); k_extra "m_after")))
  exact True.intro
def draw (ns : List Int) (a many : Int) : Int := if a < (ns.length : Int) then (ns.getD a.toNat 0).fmod many else (7 * a * a + 3).fmod many
theorem draw_bounds {ns : List Int} {a many : Int} (h : 1 ≤ many) : 0 ≤ draw ns a many ∧ draw ns a many < many := by
  unfold draw
  split
  · rw [Int.fmod_eq_emod_of_nonneg _ (by omega)]
    exact ⟨Int.emod_nonneg _ (by omega), Int.emod_lt_of_pos _ (by omega)⟩
  · rw [Int.fmod_eq_emod_of_nonneg _ (by omega)]
    exact ⟨Int.emod_nonneg _ (by omega), Int.emod_lt_of_pos _ (by omega)⟩
section
theorem reg_20 : True := by
  (k_with "m_kupd" => exact Upd.head (by assumption))
  (k_with "call builtin:len" => ((with_reducible show wpAny _ _ (call (Value.builtin _) [Value.ref _]) _ _ _); (with_unfolding_all refine' len_ints_fit ?q54k1 ?q54k2 ?q54k3 ?_; (case q54k1 => exact News.isList (by k_asm) (by k_mem)); (case q54k2 => assumption); (case q54k3 => omega); k_whole)))
  exact True.intro
theorem draw_spec {w : World} (rest : Led) (pa sa : Addr) (ws : List Value) (ns : List Int) (n2 : Nat) (at_ many : Int) (t tm : Tok) (hs : (sa, W.listOf ws.toArray n2) ∈ rest) (hI : IntsAre ws ns) (hne : ∀ p ∈ rest, p.1 ≠ pa)
    (ha : 0 ≤ at_) (ha' : at_ ≤ 100) (hm : 1 ≤ many) (hm' : many ≤ 10 ^ 9) (hl : ns.length ≤ 63) :
    Spec w 1 137 ((pa, pen sa at_ t) :: rest) [.ref pa, .int many tm] (fun v nw => ∃ t' tv, nw = (pa, pen sa (at_ + 1) t') :: rest ∧ v = .int (draw ns at_ many) tv ∧ 0 ≤ draw ns at_ many ∧ draw ns at_ many < many) := by
  k_extra "m_start"
  k_steps
  · with_reducible rename Ret _ _ _ _ _ _ => hr
    refine hr _ _ _ _ ⟨_, _, rfl, congrArg (fun z => Value.int z _) ?_, draw_bounds hm⟩ (by k_asm) (by k_asm)
    unfold draw
    rw [if_pos (by with_reducible assumption)]
  · with_reducible rename Ret _ _ _ _ _ _ => hr
    refine hr _ _ _ _ ⟨_, _, rfl, congrArg (fun z => Value.int z _) ?_, draw_bounds hm⟩ (by k_asm) (by k_asm)
    unfold draw
    rw [if_neg (by with_reducible assumption)]
end
theorem news_swap {h₀ h : Heap} {L : Addr} {x y : Addr × Obj} {r : Led} (N : News h₀ L h (x :: y :: r)) : News h₀ L h (y :: x :: r) := fun p hp => N p (by
  rcases List.mem_cons.mp hp with rfl | hp
  · exact .tail _ (.head _)
  · rcases List.mem_cons.mp hp with rfl | hp
    · exact .head _
    · exact .tail _ (.tail _ hp))
theorem reg_21 : True := by
  (k_with "call_draw" => ((with_reducible show wpAny _ _ (call (Value.ref 137) _) _ _ _); k_dflt (refine' Spec.use (draw_spec _ _ _ _ _ _ _ _ _ _ ?q55hm ?q55hi ?q55hn ?q55h1 ?q55h2 ?q55h3 ?q55h4 ?q55h5) ?q55B ?q55F ?q55X ?q55N ?q55T ?q55k ?q55d ?q55u ?_; (case q55B => k_asm); (case q55F => k_asm); (case q55X => k_asm); (case q55N => first | k_asm | exact news_swap (by k_asm)); (case q55T => k_asm); (case q55k => first | exact rfl | assumption); (case q55d => ktr_room); (case q55u => ktr_units); (case q55hm => k_mem); (case q55hi => assumption); (case q55hn => first | assumption | k_all); (case q55h1 => k_extra "m_len"); (case q55h2 => k_extra "m_len"); (case q55h3 => k_extra "m_len"); (case q55h4 => k_extra "m_len"); (case q55h5 => k_extra "m_len"); intro v nw h' tk' hP F9 N9; obtain ⟨t', tv, e1, e2, ef1, ef2⟩ := hP; subst e1; subst e2; (try dsimp only); (try k_sweep); (try k_fold))))
  exact True.intro
theorem of_allLt {d : Addr} : ∀ {l : Led}, AllLt d l → ∀ p ∈ l, p.1 < d := by
  intro l
  induction l with
  | nil => intro _ p hp; cases hp
  | cons q r ih =>
    intro h p hp
    have h' : @LT.lt Nat _ q.1 d ∧ AllLt d r := h
    rcases List.mem_cons.mp hp with e | hp
    · rw [e]; exact h'.1
    · exact ih h'.2 p hp
def realN (ns : List Int) (a : Int) : Int :=
  if draw ns (a + 1 + 1) 2 = 1 then -(draw ns (a + 1) (10 ^ (9 : Int).toNat)).fmod (10 ^ (draw ns a 10).toNat) else (draw ns (a + 1) (10 ^ (9 : Int).toNat)).fmod (10 ^ (draw ns a 10).toNat)
def realE (ns : List Int) (a : Int) : Int := draw ns (a + 1 + 1 + 1) 25 - 14
theorem real_facts (ns : List Int) (a : Int) : -10 ^ 9 < realN ns a ∧ realN ns a < 10 ^ 9 ∧ -14 ≤ realE ns a ∧ realE ns a ≤ 10 := by
  have h1 := draw_bounds (ns := ns) (a := a) (many := 10) (by decide)
  have h2 := draw_bounds (ns := ns) (a := a + 1 + 1 + 1) (many := 25) (by decide)
  have h3 : (10 : Int) ^ (draw ns a 10).toNat ≤ 10 ^ 9 := pow10_le (by omega)
  have h4 := pow10_pos (draw ns a 10).toNat
  have h5 : 0 ≤ (draw ns (a + 1) (10 ^ (9 : Int).toNat)).fmod (10 ^ (draw ns a 10).toNat) ∧ (draw ns (a + 1) (10 ^ (9 : Int).toNat)).fmod (10 ^ (draw ns a 10).toNat) < 10 ^ (draw ns a 10).toNat := by
    rw [Int.fmod_eq_emod_of_nonneg _ (by omega)]
    exact ⟨Int.emod_nonneg _ (by omega), Int.emod_lt_of_pos _ (by omega)⟩
  unfold realN realE
  generalize (draw ns (a + 1) (10 ^ (9 : Int).toNat)).fmod (10 ^ (draw ns a 10).toNat) = q at *
  generalize (10 : Int) ^ (draw ns a 10).toNat = r at *
  refine ⟨?_, ?_, ?_, ?_⟩
  · split <;> omega
  · split <;> omega
  · omega
  · omega
theorem pow_log {k : Nat} (h : k ≤ 60) : (10 ^ k : Int).natAbs.log2 < 9000 := by
  have h1 := pow10_le h
  have h2 := pow10_pos k
  have h3 : (10 ^ k : Int).natAbs < 2 ^ 9000 := Nat.lt_of_le_of_lt (show (10 ^ k : Int).natAbs ≤ 10 ^ 60 by omega) (by decide +kernel)
  exact (Nat.log2_lt (by omega)).mpr h3
theorem pow_ne {k : Nat} : (10 ^ k : Int) ≠ 0 := by have := pow10_pos k; omega
abbrev RealPost (rest : Led) (pa sa : Addr) (ns : List Int) (at_ : Int) : Value → Led → Prop := (fun v nw => ∃ tt t' ta tb, v = .ref tt ∧ nw = (pa, pen sa (at_ + 1 + 1 + 1 + 1) t') :: (tt, tup [.int (realN ns at_) ta, .int (realE ns at_) tb]) :: rest ∧ (-10 ^ 9 < realN ns at_ ∧ realN ns at_ < 10 ^ 9 ∧ -14 ≤ realE ns at_ ∧ realE ns at_ ≤ 10) ∧ pa < tt ∧ ∀ p ∈ rest, p.1 < tt)
theorem retReal {rest : Led} {pa sa : Addr} {ns : List Int} {at_ : Int} {h₀ : Heap} {L : Addr} {m : Str → Option Value} {s : Shared} {Q : Value → Shared → Prop} {h' : Heap} {tk' : Nat} {tt : Addr} {t' ta tb : Tok} {x y : Int}
  (hr : Ret (RealPost rest pa sa ns at_) h₀ L m s Q) (F : Fr h₀ L h' m) (N : News h₀ L h' ((tt, tup [.int x ta, .int y tb]) :: (pa, pen sa (at_ + 1 + 1 + 1 + 1) t') :: rest)) (l : pa < tt ∧ AllLt tt rest)
  (e1 : x = realN ns at_) (e2 : y = realE ns at_) : Q (.ref tt) { s with heap := h', toks := tk' } := by
  subst e1; subst e2
  exact hr _ _ _ _ ⟨_, _, _, _, rfl, rfl, real_facts ns at_, l.1, of_allLt l.2⟩ F (news_swap N)
section
theorem reg_22 : True := by
  (k_with "call ref" => k_extra "call_draw")
  exact True.intro
theorem real_spec {w : World} (rest : Led) (pa sa : Addr) (ws : List Value) (ns : List Int) (n2 : Nat) (at_ : Int) (t : Tok) (hs : (sa, W.listOf ws.toArray n2) ∈ rest) (hI : IntsAre ws ns) (hne : ∀ p ∈ rest, p.1 ≠ pa)
    (ha : 0 ≤ at_) (ha' : at_ ≤ 90) (hl : ns.length ≤ 63) :
    Spec w 2 144 ((pa, pen sa at_ t) :: rest) [.ref pa] (RealPost rest pa sa ns at_) := by
  k_extra "m_start"
  k_steps
  all_goals (
    ((with_reducible rename Ret _ _ _ _ _ _ => hr); (with_reducible rename _ ∧ AllLt _ _ => hl1))
    refine retReal hr (by k_asm) (by k_asm) hl1 ?_ rfl
    unfold realN
    first
      | (rw [if_pos (by with_reducible assumption)]; done)
      | (rw [if_neg (by with_reducible assumption)]; done))
end
end
section
/-- one sign more (a figure or the point): the number, the figures behind the point, is the point past -/
def rstep (s : Int × Int × Bool) (c : Nat) : Int × Int × Bool :=
  if c = 46 then (s.1, s.2.1, true) else (10 * s.1 + ((c : Int) - 48), s.2.1 + (if s.2.2 = true then 1 else 0), s.2.2)
def isNum (c : Nat) : Bool := c == 46 || (decide (48 ≤ c) && decide (c ≤ 57))
def RInv (st : Nat) (l : List Nat) (n b : Int) (f : Bool) (k : Int) : Prop :=
  ∃ j : Nat, k = (j : Int) ∧ st ≤ j ∧ j ≤ l.length ∧ (∀ c ∈ (l.drop st).take (j - st), isNum c = true) ∧ (n, b, f) = ((l.drop st).take (j - st)).foldl rstep (0, 0, false)
def digitOf (z : Str) : Int := ((z.cps.toList.headD 48 : Nat) : Int) - 48
theorem item_one (y : Str) (k : Int) : ∃ c, Txt.item y k = ⟨#[c]⟩ := ⟨_, rfl⟩
theorem item_eq {y : Str} {k : Int} (h0 : 0 ≤ k) (h : k < (y.length : Int)) : Txt.item y k = ⟨#[y.cps.toList.getD k.toNat 0]⟩ := by
  have hlt : k.toNat < y.cps.size := by have : y.length = y.cps.size := rfl; omega
  unfold Txt.item Txt.charAt
  have e : seqIndex? k y.length = some k.toNat := by
    unfold seqIndex?
    have h1 : ¬ k < 0 := by omega
    simp only [h1, if_false]
    rw [if_pos (by rw [Bool.and_eq_true, decide_eq_true_eq, decide_eq_true_eq]; exact ⟨h0, h⟩)]
  rw [e]
  simp [hlt]
section
open PySem.Builtin PySem.Builtin.Str
theorem occ_one (X : Str) (c : Nat) : (occurrences X ⟨#[c]⟩ 0 X.length 1).isEmpty = !decide (c ∈ X.cps.toList) := by
  rw [← StrLaws.found_one X c, Bool.not_not]
theorem numCodes : (Str.ofString "0123456789.").cps.toList = [48, 49, 50, 51, 52, 53, 54, 55, 56, 57, 46] := by decide +kernel
theorem occ_num (c : Nat) : (occurrences (Str.ofString "0123456789.") ⟨#[c]⟩ 0 (Str.ofString "0123456789.").length 1).isEmpty = !isNum c := by
  rw [occ_one, numCodes]
  congr 1
  unfold isNum
  rw [Bool.eq_iff_iff]
  simp only [List.mem_cons, List.not_mem_nil, or_false, decide_eq_true_eq, Bool.or_eq_true, Bool.and_eq_true, beq_iff_eq]
  omega
theorem is_dot (c : Nat) : ((⟨#[c]⟩ : Str) == Str.ofString ".") = decide (c = 46) := by
  rw [show Str.ofString "." = ⟨#[46]⟩ from by decide +kernel]
  by_cases h : c = 46
  · subst h; rfl
  · rw [decide_eq_false h]
    refine beq_eq_false_iff_ne.mpr fun e => h ?_
    have := congrArg (fun z : Str => z.cps.toList) e
    simpa using this
theorem occ_digit : ∀ c ∈ [48, 49, 50, 51, 52, 53, 54, 55, 56, 57], occurrences (Str.ofString "0123456789") ⟨#[c]⟩ 0 (Str.ofString "0123456789").length 1 = [c - 48] := by decide +kernel
theorem index_rule {prog : Program} {w : World} {A : Around} {E : Value → Shared → Prop} {s : Shared} {t u : Tok} {y : Str} {k : Int} {Q : Value → Shared → Prop}
    (h1 : (occurrences (Str.ofString "0123456789.") (Txt.item y k) 0 (Str.ofString "0123456789.").length 1).isEmpty = false) (h2 : (Txt.item y k == Str.ofString ".") = false)
    (hq : Q (.int (digitOf (Txt.item y k)) s.toks) { s with toks := s.toks + 1 }) : wpAny (model prog w) A (call (.builtin "str.index") [.str (Str.ofString "0123456789") t, .str (Txt.item y k) u]) Q E s := by
  obtain ⟨c, hc⟩ := item_one y k
  rw [hc] at h1 h2 hq ⊢
  rw [occ_num] at h1
  rw [is_dot] at h2
  have h5 : c ≠ 46 := of_decide_eq_false h2
  have h4 : isNum c = true := by simpa using h1
  have h6 : 48 ≤ c ∧ c ≤ 57 := by
    unfold isNum at h4
    simp only [Bool.or_eq_true, Bool.and_eq_true, beq_iff_eq, decide_eq_true_eq] at h4
    omega
  refine SC.index (occ_digit c (by simp only [List.mem_cons, List.not_mem_nil, or_false]; omega)) ?_
  rw [show ((c - 48 : Nat) : Int) = digitOf ⟨#[c]⟩ from by unfold digitOf; simp; omega]
  exact hq
theorem rinv_start {st : Nat} {l : List Nat} {k : Int} (h : k = (st : Int)) (hl : st ≤ l.length) : RInv st l 0 0 false k := ⟨st, h, Nat.le_refl _, hl, by simp, by simp⟩
theorem rinv_step {st : Nat} {l : List Nat} {n b : Int} {f : Bool} {k : Int} (h : RInv st l n b f k) (h0 : 0 ≤ k) (hlt : k < (l.length : Int)) (hn : isNum (l.getD k.toNat 0) = true) {n' b' : Int} {f' : Bool}
    (e : (n', b', f') = rstep (n, b, f) (l.getD k.toNat 0)) : RInv st l n' b' f' (k + 1) := by
  obtain ⟨j, rfl, h1, h2, h3, h4⟩ := h
  have hj : j < l.length := by omega
  have e1 : (l.drop st).take (j + 1 - st) = (l.drop st).take (j - st) ++ [l.getD j 0] := by
    rw [show j + 1 - st = (j - st) + 1 by omega, List.take_add_one]
    congr 1
    rw [List.getElem?_drop, show st + (j - st) = j by omega, List.getElem?_eq_getElem hj, List.getD_eq_getElem?_getD, List.getElem?_eq_getElem hj]
    rfl
  have e2 : ((j : Int)).toNat = j := by omega
  rw [e2] at hn e
  refine ⟨j + 1, by omega, by omega, by omega, ?_, ?_⟩
  · intro c hc
    rw [e1] at hc
    rcases List.mem_append.mp hc with hc | hc
    · exact h3 c hc
    · rw [List.mem_singleton.mp hc]; exact hn
  · rw [e1, List.foldl_append, ← h4]
    exact e
theorem rinv_dot {st : Nat} {y : Str} {n b : Int} {f : Bool} {k : Int} (h : RInv st y.cps.toList n b f k) (h0 : 0 ≤ k) (hlt : k < (y.length : Int)) 
    (hd : (Txt.item y k == Str.ofString ".") = true) : RInv st y.cps.toList n b true (k + 1) := by
  have hl : (y.length : Int) = (y.cps.toList.length : Int) := by simp [Str.length]
  rw [item_eq h0 hlt, is_dot] at hd
  have hd := of_decide_eq_true hd
  refine rinv_step h h0 (by omega) (by rw [hd]; decide) ?_
  rw [hd]
  rfl
theorem rinv_dig {st : Nat} {y : Str} {n b : Int} {f : Bool} {k : Int} (h : RInv st y.cps.toList n b f k) (h0 : 0 ≤ k) (hlt : k < (y.length : Int))
    (ho : (occurrences (Str.ofString "0123456789.") (Txt.item y k) 0 (Str.ofString "0123456789.").length 1).isEmpty = false)
    (hd : (Txt.item y k == Str.ofString ".") = false) {d : Int} (hf : d = if f = true then 1 else 0) : RInv st y.cps.toList (10 * n + digitOf (Txt.item y k)) (b + d) f (k + 1) := by
  have hl : (y.length : Int) = (y.cps.toList.length : Int) := by simp [Str.length]
  rw [item_eq h0 hlt] at hd ho ⊢
  rw [is_dot] at hd
  rw [occ_num] at ho
  have hd := of_decide_eq_false hd
  refine rinv_step h h0 (by omega) (by simpa using ho) ?_
  unfold rstep
  rw [if_neg hd, hf]
  rfl
end
inductive TailR : List Nat → Int → Prop
  | none : TailR [] 0
  | exp (letter : Nat) (sb : Bool) (ds : List Nat) (p : Int) : (letter = 69 ∨ letter = 68) → PySem.intText? ⟨ds.toArray⟩ = some p → ds.length ≤ 100 → TailR (letter :: (if sb = true then 45 else 43) :: ds) (p * (if sb = true then -1 else 1))
structure RShape (x : Str) (st : Nat) (body tail : List Nat) : Prop where
  eq : (Txt.strip x).cps.toList.drop st = body ++ tail
  len : (Txt.strip x).cps.toList.length = st + body.length + tail.length
  ne : body ≠ []
  num : ∀ c ∈ body, isNum c = true
  stop : ∀ c, tail.head? = some c → isNum c = false
theorem rinv_exit {x : Str} {st : Nat} {body tail : List Nat} (S : RShape x st body tail) {n b : Int} {f : Bool} {k : Int} (h : RInv st (Txt.strip x).cps.toList n b f k)
    (he : ¬ k < ((Txt.strip x).cps.toList.length : Int) ∨ isNum ((Txt.strip x).cps.toList.getD k.toNat 0) = false) : k = ((st + body.length : Nat) : Int) ∧ (n, b, f) = body.foldl rstep (0, 0, false) := by
  obtain ⟨j, rfl, h1, h2, h3, h4⟩ := h
  have hlen := S.len
  rw [S.eq] at h3 h4
  have hle : j - st ≤ body.length := by
    by_cases hc : j - st ≤ body.length
    · exact hc
    · exfalso
      cases ht : tail with
      | nil => have h0 : tail.length = 0 := by rw [ht]; rfl
               omega
      | cons c r =>
        have := h3 c (by
          rw [List.take_append, ht]
          refine List.mem_append_right _ ?_
          rw [show j - st - body.length = (j - st - body.length - 1) + 1 by omega, List.take_succ_cons]
          exact List.mem_cons_self ..)
        rw [S.stop c (by rw [ht]; rfl)] at this
        cases this
  have hge : body.length ≤ j - st := by
    rcases he with he | he
    · omega
    · by_cases hc : body.length ≤ j - st
      · exact hc
      · exfalso
        have e2 : ((j : Int)).toNat = j := by omega
        rw [e2] at he
        have hb : j - st < body.length := by omega
        have e3 : (Txt.strip x).cps.toList.getD j 0 = body.getD (j - st) 0 := by
          have : (Txt.strip x).cps.toList.getD j 0 = ((Txt.strip x).cps.toList.drop st).getD (j - st) 0 := by
            rw [List.getD_eq_getElem?_getD, List.getD_eq_getElem?_getD, List.getElem?_drop, show st + (j - st) = j by omega]
          rw [this, S.eq, List.getD_eq_getElem?_getD, List.getD_eq_getElem?_getD, List.getElem?_append_left hb]
        rw [e3] at he
        have := S.num (body.getD (j - st) 0) (by rw [List.getD_eq_getElem?_getD, List.getElem?_eq_getElem hb]; exact List.getElem_mem hb)
        rw [he] at this
        cases this
  have heq : j - st = body.length := by omega
  refine ⟨by omega, ?_⟩
  rw [h4, heq, List.take_left']
  rfl
section
open PySem.Builtin PySem.Builtin.Str
theorem rinv_exitA {x : Str} {st : Nat} {body tail : List Nat} (S : RShape x st body tail) {n b : Int} {f : Bool} {k : Int} (h : RInv st (Txt.strip x).cps.toList n b f k)
    (he : ¬ k < ((Txt.strip x).length : Int)) : k = ((st + body.length : Nat) : Int) ∧ n = (body.foldl rstep (0, 0, false)).1 ∧ b = (body.foldl rstep (0, 0, false)).2.1 := by
  have hl : ((Txt.strip x).length : Int) = ((Txt.strip x).cps.toList.length : Int) := by simp [Str.length]
  obtain ⟨e1, e2⟩ := rinv_exit S h (.inl (by omega))
  rw [← e2]
  exact ⟨e1, rfl, rfl⟩
theorem rinv_exitB {x : Str} {st : Nat} {body tail : List Nat} (S : RShape x st body tail) {n b : Int} {f : Bool} {k : Int} (h : RInv st (Txt.strip x).cps.toList n b f k)
    (h0 : 0 ≤ k) (hlt : k < ((Txt.strip x).length : Int)) (ho : (occurrences (Str.ofString "0123456789.") (Txt.item (Txt.strip x) k) 0 (Str.ofString "0123456789.").length 1).isEmpty = true) :
    k = ((st + body.length : Nat) : Int) ∧ n = (body.foldl rstep (0, 0, false)).1 ∧ b = (body.foldl rstep (0, 0, false)).2.1 := by
  rw [item_eq h0 hlt, occ_num] at ho
  obtain ⟨e1, e2⟩ := rinv_exit S h (.inr (by simpa using ho))
  rw [← e2]
  exact ⟨e1, rfl, rfl⟩
theorem tail_slice {x : Str} {st : Nat} {body tail : List Nat} (S : RShape x st body tail) : Txt.slice (Txt.strip x) (some ((st + body.length : Nat) : Int)) none = ⟨tail.toArray⟩ := by
  have hl : (Txt.strip x).length = (Txt.strip x).cps.toList.length := by simp [Str.length]
  have hlen := S.len
  rw [slice_from_eq (b := ((Txt.strip x).length : Int)) (by omega) (by omega) rfl]
  congr 2
  have e : ((st + body.length : Nat) : Int).toNat = st + body.length := by omega
  rw [e, ← List.drop_drop, S.eq, List.drop_left', List.take_of_length_le]
  · omega
  · rfl
theorem cut_one (c : Nat) (r : List Nat) : Txt.slice ⟨(c :: r).toArray⟩ (some 1) none = ⟨r.toArray⟩ := by
  rw [slice_from_eq (b := (((⟨(c :: r).toArray⟩ : Str).length : Nat) : Int)) (by decide) (by simp [Str.length]; omega) rfl]
  congr 2
  have : ((((⟨(c :: r).toArray⟩ : Str).length : Nat) : Int) - 1).toNat = r.length := by simp [Str.length]
  rw [this]
  simp
theorem item_head (c : Nat) (r : List Nat) : Txt.item ⟨(c :: r).toArray⟩ 0 = ⟨#[c]⟩ := by
  rw [item_eq (by decide) (by simp [Str.length])]
  simp
theorem ne_empty (c : Nat) (r : List Nat) : ((⟨(c :: r).toArray⟩ : Str) != Str.ofString "") = true := by
  rw [show Str.ofString "" = ⟨#[]⟩ from by decide +kernel]
  refine bne_iff_ne.mpr fun e => ?_
  have := congrArg (fun z : Str => z.cps.toList) e
  simp at this
theorem eq_empty : ((⟨([] : List Nat).toArray⟩ : Str) != Str.ofString "") = false := by decide +kernel
theorem occ_ED (c : Nat) (h : c = 69 ∨ c = 68) : (occurrences (Str.ofString "ED") ⟨#[c]⟩ 0 (Str.ofString "ED").length 1).isEmpty = false := by
  rcases h with rfl | rfl <;> decide +kernel
theorem sign_eq (sb : Bool) : ((⟨#[if sb = true then 45 else 43]⟩ : Str) == Str.ofString "-") = sb := by cases sb <;> decide +kernel
theorem occ_sg_num (c : Nat) (h : isNum c = true) : (occurrences (Str.ofString "+-") ⟨#[c]⟩ 0 (Str.ofString "+-").length 1).isEmpty = true := by
  rw [occ_one, show (Str.ofString "+-").cps.toList = [43, 45] from by decide +kernel]
  unfold isNum at h
  simp only [Bool.or_eq_true, Bool.and_eq_true, beq_iff_eq, decide_eq_true_eq] at h
  simp
  omega
theorem in_b {prog : Program} {w : World} {A : Around} {E : Value → Shared → Prop} {s : Shared} {x y : Str} {t u : Tok} {b : Bool} {Q : Value → Shared → Prop} (h : (occurrences y x 0 y.length 1).isEmpty = b) (hq : Q (.bool (!b)) s) :
    wpAny (model prog w) A (compareOp .In (.str x t) (.str y u)) Q E s := in_str (by rw [h]; exact hq)
theorem eq_b {prog : Program} {w : World} {A : Around} {E : Value → Shared → Prop} {s : Shared} {x y : Str} {t u : Tok} {b : Bool} {Q : Value → Shared → Prop} (h : (x == y) = b) (hq : Q (.bool b) s) :
    wpAny (model prog w) A (compareOp .Eq (.str x t) (.str y u)) Q E s := eq_str (by rw [h]; exact hq)
theorem ne_b {prog : Program} {w : World} {A : Around} {E : Value → Shared → Prop} {s : Shared} {x y : Str} {t u : Tok} {b : Bool} {Q : Value → Shared → Prop} (h : (x != y) = b) (hq : Q (.bool b) s) :
    wpAny (model prog w) A (compareOp .NotEq (.str x t) (.str y u)) Q E s := ne_str (by rw [h]; exact hq)
end
end
section
theorem reg_23 : True := by
  k_with_none
  (k_with "m_mem" => first | assumption | exact List.Mem.head _ | (refine' List.Mem.tail _ ?_; k_extra "m_mem"))
  (k_with "m_kmem" => assumption)
  (k_with "m_fill" => ((have mfill : PySem.Challenge.rw_no0231_01 = PySem.Challenge.rw_no0231_01 ∧ _root_.Mine.hd.heap_39 = _root_.Mine.hd.heap_39 := by (k_fill; exact ⟨rfl, rfl⟩)); clear mfill))
  (k_with "m_start" => (k_extra "m_fill"; unfold Spec; intros; refine wpAny_call ?_; k_dflt cell_enter))
  (k_with "m_news" => first | with_reducible assumption | (refine cb_drop (by with_reducible assumption) (fun p hp => .tail _ hp)) | (refine cb_drop (by with_reducible assumption) (fun p hp => .tail _ (.tail _ hp))) | (refine cb_drop (by with_reducible assumption) (fun p hp => .tail _ (.tail _ (.tail _ hp)))) | k_asm)
  (k_with "m_ifs" => (repeat' split) <;> first | rfl | (exfalso; first | contradiction | omega | simp_all))
  (k_with "m_after" => (intro t h' tk' ef F9 N9; (try dsimp only); (try k_fold)))
  (k_with "m_afterT" => (intro t ta tb h' tk' ef F9 N9 l1; (try k_lt l1); (try dsimp only); (try k_sweep); (try k_fold)))
  (k_with "m_len" => first | assumption | omega | ((try simp only [Str.length_append, lenA, lenB, lenC, lenD, lenE, lenF, lenG, lenH] at *); omega) | size_fits | l_fact)
  (k_with "call_field" => ((with_reducible show wpAny _ _ (call (Value.ref 60) _) _ _ _); k_dflt (refine' Spec.useV (field_spec _ _ _ _ _ ?q11h1 ?q11h2 ?q11h3) ?q11B ?q11F ?q11X ?q11N ?q11T ?q11k ?q11d ?q11u ?_; (case q11B => k_asm); (case q11F => k_asm); (case q11X => k_asm); (case q11N => k_asm); (case q11T => k_asm); (case q11k => first | exact rfl | assumption); (case q11d => ktr_room); (case q11u => ktr_units); (case q11h1 => k_extra "m_len"); (case q11h2 => k_extra "m_len"); (case q11h3 => k_extra "m_len"); k_extra "m_after")))
  (k_with "call_scaled" => ((with_reducible show wpAny _ _ (call (Value.ref 74) _) _ _ _); k_dflt (refine' Spec.useV (scaled_spec _ _ _ _ _ ?q13h1 ?q13h2 ?q13h3 ?q13h4) ?q13B ?q13F ?q13X ?q13N ?q13T ?q13k ?q13d ?q13u ?_; (case q13B => k_asm); (case q13F => k_asm); (case q13X => k_asm); (case q13N => k_asm); (case q13T => k_asm); (case q13k => first | exact rfl | assumption); (case q13d => ktr_room); (case q13u => ktr_units); (case q13h1 => k_extra "m_len"); (case q13h2 => k_extra "m_len"); (case q13h3 => k_extra "m_len"); (case q13h4 => k_extra "m_len"); k_extra "m_after")))
  (k_with "call_sign" => ((with_reducible show wpAny _ _ (call (Value.ref 67) _) _ _ _); k_dflt (refine' Spec.useV (sign_spec _ _ _) ?q14B ?q14F ?q14X ?q14N ?q14T ?q14k ?q14d ?q14u ?_; (case q14B => k_asm); (case q14F => k_asm); (case q14X => k_asm); (case q14N => k_asm); (case q14T => k_asm); (case q14k => first | exact rfl | assumption); (case q14d => ktr_room); (case q14u => ktr_units); k_extra "m_after")))
  (k_with "call_point" => ((with_reducible show wpAny _ _ (call (Value.ref 81) _) _ _ _); k_dflt (refine' Spec.useV (point_spec _ _ _ _ _ _ _ _ _ ?q15h1 ?q15h2 ?q15h3 ?q15h4 ?q15h5) ?q15B ?q15F ?q15X ?q15N ?q15T ?q15k ?q15d ?q15u ?_; (case q15B => k_asm); (case q15F => k_asm); (case q15X => k_asm); (case q15N => k_asm); (case q15T => k_asm); (case q15k => first | exact rfl | assumption); (case q15d => ktr_room); (case q15u => ktr_units); (case q15h1 => k_extra "m_len"); (case q15h2 => k_extra "m_len"); (case q15h3 => k_extra "m_len"); (case q15h4 => k_extra "m_len"); (case q15h5 => k_extra "m_len"); k_extra "m_after")))
  (k_with "call_str" => ((with_reducible show wpAny _ _ (call (Value.type "str") [Value.int _ _]) _ _ _); refine str_int ?q16h1 ?q16h2 ?_; (case q16h1 => k_extra "m_len"); (case q16h2 => k_extra "m_len"); intro ef; (try dsimp only); (try k_fold)))
  (k_with "call_fixed" => ((with_reducible show wpAny _ _ (call (Value.ref 88) _) _ _ _); k_dflt (refine' Spec.useV (edit_fixed_spec _ _ _ _ _ _ _ _ _ _ _ _ _ ?q21hm ?q21h1 ?q21h2 ?q21h3 ?q21h4 ?q21h5 ?q21h6 ?q21h7 ?q21h8 ?q21h9 ?q21h10) ?q21B ?q21F ?q21X ?q21N ?q21T ?q21k ?q21d ?q21u ?_; (case q21B => k_asm); (case q21F => k_asm); (case q21X => k_asm); (case q21N => k_asm); (case q21T => k_asm); (case q21k => first | exact rfl | assumption); (case q21d => ktr_room); (case q21u => ktr_units); (case q21hm => k_extra "m_mem"); (case q21h1 => k_extra "m_len"); (case q21h2 => k_extra "m_len"); (case q21h3 => k_extra "m_len"); (case q21h4 => k_extra "m_len"); (case q21h5 => k_extra "m_len"); (case q21h6 => k_extra "m_len"); (case q21h7 => k_extra "m_len"); (case q21h8 => k_extra "m_len"); (case q21h9 => k_extra "m_len"); (case q21h10 => k_extra "m_len"); k_extra "m_after")))
  (k_with "call_lead" => ((with_reducible show wpAny _ _ (call (Value.ref 95) _) _ _ _); k_dflt (refine' Spec.useT (leading_spec _ _ _ _ _ _ _ _ ?q25hm ?q25h1 ?q25h2 ?q25h3 ?q25h4 ?q25h5 ?q25h6) ?q25B ?q25F ?q25X ?q25N ?q25T ?q25k ?q25d ?q25u ?_; (case q25B => k_asm); (case q25F => k_asm); (case q25X => k_asm); (case q25N => k_asm); (case q25T => k_asm); (case q25k => first | exact rfl | assumption); (case q25d => ktr_room); (case q25u => ktr_units); (case q25hm => k_extra "m_mem"); (case q25h1 => k_extra "m_len"); (case q25h2 => k_extra "m_len"); (case q25h3 => k_extra "m_len"); (case q25h4 => k_extra "m_len"); (case q25h5 => k_extra "m_len"); (case q25h6 => k_extra "m_len"); k_extra "m_afterT")))
  (k_with "call_exponent" => ((with_reducible show wpAny _ _ (call (Value.ref 102) _) _ _ _); k_dflt (refine' Spec.useV (exponent_spec _ _ _ _ _ _ _ ?q26h1 ?q26h2 ?q26h3 ?q26h4) ?q26B ?q26F ?q26X ?q26N ?q26T ?q26k ?q26d ?q26u ?_; (case q26B => k_asm); (case q26F => k_asm); (case q26X => k_asm); (case q26N => k_asm); (case q26T => k_asm); (case q26k => first | exact rfl | assumption); (case q26d => ktr_room); (case q26u => ktr_units); (case q26h4 => k_asm); (case q26h1 => k_extra "m_len"); (case q26h2 => k_extra "m_len"); (case q26h3 => k_extra "m_len"); k_extra "m_after")))
  (k_with "call_exp" => ((with_reducible show wpAny _ _ (call (Value.ref 109) _) _ _ _); k_dflt (refine' Spec.useV (edit_exp_spec _ _ _ _ _ _ _ _ _ _ _ _ _ _ _ _ _ ?q31hm ?q31h1 ?q31h2 ?q31h3 ?q31h4 ?q31h5 ?q31h6 ?q31h7 ?q31h8 ?q31h9 ?q31hz ?q31h10 ?q31h11) ?q31B ?q31F ?q31X ?q31N ?q31T ?q31k ?q31d ?q31u ?_; (case q31B => k_asm); (case q31F => k_asm); (case q31X => k_asm); (case q31N => k_asm); (case q31T => k_asm); (case q31k => first | exact rfl | assumption); (case q31d => ktr_room); (case q31u => ktr_units); (case q31hm => k_extra "m_mem"); (case q31hz => k_asm); (case q31h1 => k_extra "m_len"); (case q31h2 => k_extra "m_len"); (case q31h3 => k_extra "m_len"); (case q31h4 => k_extra "m_len"); (case q31h5 => k_extra "m_len"); (case q31h6 => k_extra "m_len"); (case q31h7 => k_extra "m_len"); (case q31h8 => k_extra "m_len"); (case q31h9 => k_extra "m_len"); (case q31h10 => k_extra "m_len"); (case q31h11 => k_extra "m_len"); k_extra "m_after")))
  (k_with "call_isgen" => ((with_reducible show wpAny _ _ (call (Value.ref 116) _) _ _ _); k_dflt (refine' Spec.useV (is_general_spec _ _ _ _ _ _ _ _ ?q33hm ?q33h1 ?q33h2 ?q33h3 ?q33h4 ?q33h5 ?q33h6) ?q33B ?q33F ?q33X ?q33N ?q33T ?q33k ?q33d ?q33u ?_; (case q33B => k_asm); (case q33F => k_asm); (case q33X => k_asm); (case q33N => k_asm); (case q33T => k_asm); (case q33k => first | exact rfl | assumption); (case q33d => ktr_room); (case q33u => ktr_units); (case q33hm => k_extra "m_mem"); (case q33h1 => k_extra "m_len"); (case q33h2 => k_extra "m_len"); (case q33h3 => k_extra "m_len"); (case q33h4 => k_extra "m_len"); (case q33h5 => k_extra "m_len"); (case q33h6 => k_extra "m_len"); k_extra "m_after")))
  (k_with "call_general" => ((with_reducible show wpAny _ _ (call (Value.ref 123) _) _ _ _); k_dflt (refine' Spec.useV (edit_general_spec _ _ _ _ _ _ _ _ _ _ _ _ _ _ _ ?q40hm ?q40h1 ?q40h2 ?q40h3 ?q40h4 ?q40h5 ?q40h6 ?q40h7 ?q40h8 ?q40hz ?q40h9 ?q40h10) ?q40B ?q40F ?q40X ?q40N ?q40T ?q40k ?q40d ?q40u ?_; (case q40B => k_asm); (case q40F => k_asm); (case q40X => k_asm); (case q40N => k_asm); (case q40T => k_asm); (case q40k => first | exact rfl | assumption); (case q40d => ktr_room); (case q40u => ktr_units); (case q40hm => k_extra "m_mem"); (case q40hz => k_asm); (case q40h1 => k_extra "m_len"); (case q40h2 => k_extra "m_len"); (case q40h3 => k_extra "m_len"); (case q40h4 => k_extra "m_len"); (case q40h5 => k_extra "m_len"); (case q40h6 => k_extra "m_len"); (case q40h7 => k_extra "m_len"); (case q40h8 => k_extra "m_len"); (case q40h9 => k_extra "m_len"); (case q40h10 => k_extra "m_len"); k_extra "m_after")))
  (k_with "call_real" => ((with_reducible show wpAny _ _ (call (Value.ref 130) _) _ _ _); k_dflt (refine' Spec.useV (edit_real_spec _ _ _ _ _ _ _ _ _ _ _ _ _ ?q44hm ?q44hi ?q44hr ?q44hk ?q44h1 ?q44h2 ?q44h3 ?q44h4 ?q44h5 ?q44h6 ?q44h7 ?q44h8) ?q44B ?q44F ?q44X ?q44N ?q44T ?q44k ?q44d ?q44u ?_; (case q44B => k_asm); (case q44F => k_asm); (case q44X => k_asm); (case q44N => k_asm); (case q44T => k_asm); (case q44k => first | exact rfl | assumption); (case q44d => ktr_room); (case q44u => ktr_units); (case q44hm => k_extra "m_mem"); (case q44hr => assumption); (case q44hi => k_extra "m_mem"); (case q44hk => k_asm); (case q44h1 => k_extra "m_len"); (case q44h2 => k_extra "m_len"); (case q44h3 => k_extra "m_len"); (case q44h4 => k_extra "m_len"); (case q44h5 => k_extra "m_len"); (case q44h6 => k_extra "m_len"); (case q44h7 => k_extra "m_len"); (case q44h8 => k_extra "m_len"); k_extra "m_after")))
  (k_with "call_less" => ((with_reducible show wpAny _ _ (call (Value.ref 158) _) _ _ _); k_dflt (refine' Spec.useT (less_spec _ _ _ _ _ _ _ _ _ _ _ ?q47hm ?q47hm2 ?q47h1 ?q47h2 ?q47h3 ?q47h4 ?q47h5 ?q47h6 ?q47h7 ?q47h8) ?q47B ?q47F ?q47X ?q47N ?q47T ?q47k ?q47d ?q47u ?_; (case q47B => k_asm); (case q47F => k_asm); (case q47X => k_asm); (case q47N => k_asm); (case q47T => k_asm); (case q47k => first | exact rfl | assumption); (case q47d => ktr_room); (case q47u => ktr_units); (case q47hm => k_extra "m_mem"); (case q47hm2 => k_extra "m_mem"); (case q47h1 => k_extra "m_len"); (case q47h2 => k_extra "m_len"); (case q47h3 => k_extra "m_len"); (case q47h4 => k_extra "m_len"); (case q47h5 => k_extra "m_len"); (case q47h6 => k_extra "m_len"); (case q47h7 => k_extra "m_len"); (case q47h8 => k_extra "m_len"); k_extra "m_afterT")))
  (k_with "call_near" => ((with_reducible show wpAny _ _ (call (Value.ref 165) _) _ _ _); k_dflt (refine' Spec.useV (near_spec _ _ _ _ _ _ _ _ _ _ _ ?q51hm ?q51hm2 ?q51h1 ?q51h2 ?q51h3 ?q51h4 ?q51h5 ?q51h6 ?q51h7 ?q51h8) ?q51B ?q51F ?q51X ?q51N ?q51T ?q51k ?q51d ?q51u ?_; (case q51B => k_asm); (case q51F => k_asm); (case q51X => k_asm); (case q51N => k_asm); (case q51T => k_asm); (case q51k => first | exact rfl | assumption); (case q51d => ktr_room); (case q51u => ktr_units); (case q51hm => k_extra "m_mem"); (case q51hm2 => k_extra "m_mem"); (case q51h1 => k_extra "m_len"); (case q51h2 => k_extra "m_len"); (case q51h3 => k_extra "m_len"); (case q51h4 => k_extra "m_len"); (case q51h5 => k_extra "m_len"); (case q51h6 => k_extra "m_len"); (case q51h7 => k_extra "m_len"); (case q51h8 => k_extra "m_len"); k_extra "m_after")))
  (k_with "call_turned" => ((with_reducible show wpAny _ _ (call (Value.ref 172) _) _ _ _); k_dflt (refine' Spec.useV (turned_spec _ _ _ ?q52h1 ?q52h2) ?q52B ?q52F ?q52X ?q52N ?q52T ?q52k ?q52d ?q52u ?_; (case q52B => k_asm); (case q52F => k_asm); (case q52X => k_asm); (case q52N => k_asm); (case q52T => k_asm); (case q52k => first | exact rfl | assumption); (case q52d => ktr_room); (case q52u => ktr_units); (case q52h1 => k_extra "m_len"); (case q52h2 => k_extra "m_len"); k_extra "m_after")))
  (k_with "call_draw" => ((with_reducible show wpAny _ _ (call (Value.ref 137) _) _ _ _); k_dflt (refine' Spec.use (draw_spec _ _ _ _ _ _ _ _ _ _ ?q55hm ?q55hi ?q55hn ?q55h1 ?q55h2 ?q55h3 ?q55h4 ?q55h5) ?q55B ?q55F ?q55X ?q55N ?q55T ?q55k ?q55d ?q55u ?_; (case q55B => k_asm); (case q55F => k_asm); (case q55X => k_asm); (case q55N => first | k_asm | exact news_swap (by k_asm)); (case q55T => k_asm); (case q55k => first | exact rfl | assumption); (case q55d => ktr_room); (case q55u => ktr_units); (case q55hm => k_mem); (case q55hi => assumption); (case q55hn => first | assumption | k_all); (case q55h1 => k_extra "m_len"); (case q55h2 => k_extra "m_len"); (case q55h3 => k_extra "m_len"); (case q55h4 => k_extra "m_len"); (case q55h5 => k_extra "m_len"); intro v nw h' tk' hP F9 N9; obtain ⟨t', tv, e1, e2, ef1, ef2⟩ := hP; subst e1; subst e2; (try dsimp only); (try k_sweep); (try k_fold))))
  (k_with "call_lreal" => ((with_reducible show wpAny _ _ (call (Value.ref 144) _) _ _ _); k_dflt (refine' Spec.use (real_spec _ _ _ _ _ _ _ _ ?q57hm ?q57hi ?q57hn ?q57h1 ?q57h2 ?q57h3) ?q57B ?q57F ?q57X ?q57N ?q57T ?q57k ?q57d ?q57u ?_; (case q57B => k_asm); (case q57F => k_asm); (case q57X => k_asm); (case q57N => first | k_asm | exact news_swap (by k_asm)); (case q57T => k_asm); (case q57k => first | exact rfl | assumption); (case q57d => ktr_room); (case q57u => ktr_units); (case q57hm => k_mem); (case q57hi => assumption); (case q57hn => first | assumption | k_all); (case q57h1 => k_extra "m_len"); (case q57h2 => k_extra "m_len"); (case q57h3 => k_extra "m_len"); intro v nw h' tk' hP F9 N9; obtain ⟨tt, t', ta, tb, e1, e2, ef, l1, l2⟩ := hP; subst e1; subst e2; (try k_lt2 l1); (try k_lt l2); (try dsimp only); (try k_sweep); (try k_fold))))
  exact True.intro
noncomputable def readBody : List Stmt := match PySem.Challenge.pw_no0231_01.main.body.drop 18 with
  | .FunctionDef _ _ b _ _ _ _ _ _ _ :: _ => b
  | _ => []
noncomputable def readScope : Scope := match PySem.Challenge.pw_no0231_01.main.body.drop 18 with
  | .FunctionDef _ _ _ _ _ _ sc _ _ _ :: _ => sc
  | _ => default
section
open PySem.Builtin PySem.Builtin.Str
/-- the tail behind the figures: nothing, or a letter, a sign and figures; what it tells -/
inductive TailV (T : Str) : Int → Prop
  | none : (T != Str.ofString "") = false → TailV T 0
  | exp (sb : Bool) (p : Int) : (T != Str.ofString "") = true → 1 ≤ T.length → (occurrences (Str.ofString "ED") (Txt.item T 0) 0 (Str.ofString "ED").length 1).isEmpty = false →
      (Txt.slice T (some 1) none != Str.ofString "") = true → (Txt.item (Txt.slice T (some 1) none) 0 == Str.ofString "-") = sb → 1 ≤ (Txt.slice T (some 1) none).length → PySem.intText? (Txt.slice (Txt.slice T (some 1) none) (some 1) none) = some p →
      TailV T (p * (if sb = true then -1 else 1))
abbrev postMap (σ : Int) (u1 : Tok) (n : Int) (u2 : Tok) (b : Int) (u3 : Tok) (r : Str) (u4 : Tok) (k : Int) (u5 : Tok) (m : Str → Option Value) : Str → Option Value := fun y =>
  if y = Str.ofString "sign" then some (.int σ u1) else if y = Str.ofString "number" then some (.int n u2) else if y = Str.ofString "behind" then some (.int b u3) else if y = Str.ofString "rest" then some (.str r u4) else if y = Str.ofString "at" then some (.int k u5) else m y
abbrev loopMap (σ : Int) (u1 u2 u3 : Tok) (r : Str) (u4 : Tok) (k : Int) (u5 : Tok) (m : Str → Option Value) : Str → Option Value := fun y =>
  if y = Str.ofString "is_behind" then some (.bool false) else postMap σ u1 0 u2 0 u3 r u4 k u5 m y
theorem one_more {m : Str → Option Value} {x : Str} {v : Option Value} (h : m x = v) : (fun y => if y = x then v else m y) = m := by
  funext y
  split
  · rename_i e; rw [e, h]
  · rfl
theorem post_shape {g h : Heap} {L : Addr} {σ n b k : Int} {u1 u2 u3 u4 u5 : Tok} {r : Str} {m : Str → Option Value} (F : Fr g L h m)
    (h1 : m (Str.ofString "sign") = some (.int σ u1)) (h2 : m (Str.ofString "number") = some (.int n u2)) (h3 : m (Str.ofString "behind") = some (.int b u3)) (h4 : m (Str.ofString "rest") = some (.str r u4)) (h5 : m (Str.ofString "at") = some (.int k u5)) :
    Fr g L h (postMap σ u1 n u2 b u3 r u4 k u5 m) := by
  have e : postMap σ u1 n u2 b u3 r u4 k u5 m = m := by
    show (fun y => if y = Str.ofString "sign" then some (.int σ u1) else (fun y => if y = Str.ofString "number" then some (.int n u2) else (fun y => if y = Str.ofString "behind" then some (.int b u3) else (fun y => if y = Str.ofString "rest" then some (.str r u4) else (fun y => if y = Str.ofString "at" then some (.int k u5) else m y) y) y) y) y) = m
    rw [one_more h5, one_more h4, one_more h3, one_more h2, one_more h1]
  rw [e]; exact F
theorem loop_shape {g h : Heap} {L : Addr} {σ k : Int} {u1 u2 u3 u4 u5 : Tok} {r : Str} {m : Str → Option Value} (F : Fr g L h m)
    (h0 : m (Str.ofString "is_behind") = some (.bool false)) (h1 : m (Str.ofString "sign") = some (.int σ u1)) (h2 : m (Str.ofString "number") = some (.int 0 u2)) (h3 : m (Str.ofString "behind") = some (.int 0 u3)) (h4 : m (Str.ofString "rest") = some (.str r u4)) (h5 : m (Str.ofString "at") = some (.int k u5)) :
    Fr g L h (loopMap σ u1 u2 u3 r u4 k u5 m) := by
  have e : loopMap σ u1 u2 u3 r u4 k u5 m = m := by
    have e1 : postMap σ u1 0 u2 0 u3 r u4 k u5 m = m := by
      show (fun y => if y = Str.ofString "sign" then some (.int σ u1) else (fun y => if y = Str.ofString "number" then some (.int 0 u2) else (fun y => if y = Str.ofString "behind" then some (.int 0 u3) else (fun y => if y = Str.ofString "rest" then some (.str r u4) else (fun y => if y = Str.ofString "at" then some (.int k u5) else m y) y) y) y) y) = m
      rw [one_more h5, one_more h4, one_more h3, one_more h2, one_more h1]
    show (fun y => if y = Str.ofString "is_behind" then some (.bool false) else postMap σ u1 0 u2 0 u3 r u4 k u5 m y) = m
    rw [e1, one_more h0]
  rw [e]; exact F
/-- what the read ends in: a new tuple -/
def ReadEnd (g : Heap) (L' : Addr) (s : Shared) (news : Led) (x y : Int) (Q : Flow → Shared → Prop) : Prop :=
  ∀ t ta tb h' tk' m', Fr g L' h' m' → News g L' h' ((t, tup [.int x ta, .int y tb]) :: news) → (∀ q ∈ news, q.1 < t) → Q (.ret (.ref t)) { s with heap := h', toks := tk' }
theorem ReadEnd.at {g : Heap} {L' : Addr} {s : Shared} {news : Led} {x y : Int} {Q : Flow → Shared → Prop} (H : ReadEnd g L' s news x y Q) {t : Addr} {x' y' : Int} {ta tb : Tok} {h' : Heap} {m' : Str → Option Value}
    (F : Fr g L' h' m') (N : News g L' h' ((t, tup [.int x' ta, .int y' tb]) :: news)) (l : ∀ q ∈ news, q.1 < t) (ex : x' = x) (ey : y' = y) : ∀ tk', Q (.ret (.ref t)) { s with heap := h', toks := tk' } := by
  subst ex; subst ey; exact fun _ => H _ _ _ _ _ _ F N l
theorem ReadEnd.mono {g : Heap} {L' : Addr} {s : Shared} {hh : Heap} {tk : Nat} {news : Led} {x y : Int} {Q : Flow → Shared → Prop} (H : ReadEnd g L' s news x y Q) : ReadEnd g L' { s with heap := hh, toks := tk } news x y Q :=
  fun t ta tb h' tk' m' F N l => H t ta tb h' tk' m' F N l
section
theorem reg_24 : True := by
  (k_with "m_slice" => ((with_reducible show wpAny _ _ (subscriptTail _ (Expr.Slice (some _) none none _) (Value.str _ _) _) _ _ _); (with_reducible rename Fr _ _ _ _ => F'); (with_reducible rename News _ _ _ _ => N'); refine slice_strN_sn_len (s := ⟨_, _, _, _, _⟩) F' N' ?_; intro _ _ _ _ _ _))
  (k_with "compareOp In str str" => (refine in_b ?q59a ?_; (case q59a => with_reducible assumption)))
  (k_with "compareOp Eq str str" => (refine eq_b ?q60a ?_; (case q60a => with_reducible assumption)))
  (k_with "compareOp NotEq str str" => (refine ne_b ?q61a ?_; (case q61a => with_reducible assumption)))
  (k_with "subscriptTail Name Slice str ref" => (k_extra "m_slice"; (try dsimp only)))
  (k_with "binaryOp Mult int int" => (refine mul_int ?_ ?q63a; (case q63a => with_reducible assumption)))
  exact True.intro
theorem read_post {w : World} {sc : Scope} {bd : List Stmt} (hsc : sc = readScope) (hbody : bd = readBody.drop 8) {loose : List Str} {mean : ExcName → Option Value} {mg mb : Str → Option Value} {dp un : Nat} {gd : Option (List Code)} {cn : Str} {cs : Scope} {a : Addr} {ccd : Value} {cl : List (Str × Addr)} {outer : List Env} {base g : Heap} {L L' : Addr} {m : Str → Option Value} {s : Shared} {Q : Flow → Shared → Prop} {E : Value → Shared → Prop}
    (B : Below (ktrTop dp un gd cn cs L a ccd cl outer) base (envX cn cs L a ccd cl :: outer) g)
    (X : (hd.heap_39 w.params).In g) (T : Top hd.view_39 loose mean mg mb g) {news : Led} (N : News g L' s.heap news)
    {σ n b k p : Int} {r Tt : Str} {u1 u2 u3 u4 u5 : Tok} (F : Fr g L' s.heap (postMap σ u1 n u2 b u3 r u4 k u5 m))
    (hsg : IntMulOk σ n) (hT : Txt.slice r (some k) none = Tt) (hv : TailV Tt p) (hr : r.length ≤ 44)
    (hend : ReadEnd g L' s news (σ * n) (p - b) Q) :
    wpAny (model PySem.Challenge.pw_no0231_01 w) ((ktrTop dp un gd cn cs L a ccd cl outer).deeper (envOf (Str.ofString "_law_read") sc L' 151 (.ref 150))) (execs bd (envOf (Str.ofString "_law_read") sc L' 151 (.ref 150))) Q E s := by
  k_extra "m_fill"
  conv at hsc => rhs; whnf
  conv at hbody => rhs; whnf
  subst hsc
  subst hbody
  subst hT
  cases hv with
  | none h =>
    k_steps
    all_goals exact ReadEnd.at hend (by k_asm) (by k_asm) (by k_asm) rfl rfl _
  | exp sb q h1 h2 h3 h4 h5 h6 h7 =>
    k_steps
    all_goals (refine ReadEnd.at hend (by k_asm) (by k_asm) (by k_asm) rfl ?_ _; first | (rw [← h5, if_pos (by with_reducible assumption)]; done) | (rw [← h5, if_neg (ne_true_of_eq_false (by with_reducible assumption))]; done))
theorem reg_25 : True := by
  (k_with "m_post" => (k_dflt (refine' read_post ?q64hsc ?q64hbody ?q64B ?q64X ?q64T ?q64N (post_shape ?q64F ?q64h1 ?q64h2 ?q64h3 ?q64h4 ?q64h5) ?q64hsg ?q64hT ?q64hv ?q64hr ?q64he; (case q64B => k_asm); (case q64F => k_asm); (case q64h1 => exact rfl); (case q64h2 => exact rfl); (case q64h3 => exact rfl); (case q64h4 => exact rfl); (case q64h5 => exact rfl); (case q64X => k_asm); (case q64T => k_asm); (case q64N => k_asm); (case q64hsc => rfl); (case q64hbody => rfl); (case q64hsg => exact (by with_reducible assumption : ∀ n, IntMulOk _ n) _); (case q64hT => with_reducible assumption); (case q64hv => with_reducible assumption); (case q64hr => omega); (case q64he => exact ReadEnd.mono (by with_reducible assumption)))))
  (k_with "execs cons" => ((with_reducible show wpAny _ _ (execs (Stmt.Assign [Expr.Name (Str.ofString "power") _] _ _ :: _) _) _ _ _); (with_reducible rename RInv _ _ _ _ _ _ => hI); (with_reducible rename RShape _ _ _ _ => hS); (have hx := rinv_exitA hS hI (by with_reducible assumption)); obtain ⟨hk, hn, hb⟩ := hx; subst hk; subst hn; subst hb; k_extra "m_post"))
  (k_with "execs cons" => ((with_reducible show wpAny _ _ (execs (Stmt.Assign [Expr.Name (Str.ofString "power") _] _ _ :: _) _) _ _ _); (with_reducible rename RInv _ _ _ _ _ _ => hI); (with_reducible rename RShape _ _ _ _ => hS); (have hx := rinv_exitB hS hI (by with_reducible assumption) (by with_reducible assumption) (by with_reducible assumption)); obtain ⟨hk, hn, hb⟩ := hx; subst hk; subst hn; subst hb; k_extra "m_post"))
  (k_with "call builtin:str.index" => (refine index_rule ?q67a ?q67b ?_; (case q67a => with_reducible assumption); (case q67b => with_reducible assumption); (try dsimp only); (try k_fold)))
  exact True.intro
theorem read_loop {w : World} {sc : Scope} {bd : List Stmt} (hsc : sc = readScope) (hbody : bd = readBody.drop 7) {loose : List Str} {mean : ExcName → Option Value} {mg mb : Str → Option Value} {dp un : Nat} {gd : Option (List Code)} {cn : Str} {cs : Scope} {a : Addr} {ccd : Value} {cl : List (Str × Addr)} {outer : List Env} {base g : Heap} {L L' : Addr} {m : Str → Option Value} {s : Shared} {Q : Flow → Shared → Prop} {Q₁ : Value → Shared → Prop} {E₁ : Value → Shared → Prop}
    (B : Below (ktrTop dp un gd cn cs L a ccd cl outer) base (envX cn cs L a ccd cl :: outer) g)
    (X : (hd.heap_39 w.params).In g) (T : Top hd.view_39 loose mean mg mb g) {news : Led} (N : News g L' s.heap news)
    {σ p : Int} {st : Nat} {x Tt : Str} {body tail : List Nat} {u1 u2 u3 u4 u5 : Tok} (F : Fr g L' s.heap (loopMap σ u1 u2 u3 (Txt.strip x) u4 (st : Int) u5 m))
    (hl : x.length = 44) (S : RShape x st body tail) (hσ : ∀ n, IntMulOk σ n) (hT : Txt.slice (Txt.strip x) (some ((st + body.length : Nat) : Int)) none = Tt) (hv : TailV Tt p) (hr : (Txt.strip x).length ≤ 44)
    (hend : ReadEnd g L' s news (σ * (body.foldl rstep (0, 0, false)).1) (p - (body.foldl rstep (0, 0, false)).2.1) Q) :
    wpAny (model PySem.Challenge.pw_no0231_01 w) ((ktrTop dp un gd cn cs L a ccd cl outer).deeper (envOf (Str.ofString "_law_read") sc L' 151 (.ref 150))) (execs bd (envOf (Str.ofString "_law_read") sc L' 151 (.ref 150))) Q (fun e s' => wpAny (model PySem.Challenge.pw_no0231_01 w) ((ktrTop dp un gd cn cs L a ccd cl outer).deeper (envOf (Str.ofString "_law_read") sc L' 151 (.ref 150))) (leaving (envOf (Str.ofString "_law_read") sc L' 151 (.ref 150)) e) (fun _ s'' => Q₁ e s'') E₁ s') s := by
  k_extra "m_fill"
  conv at hsc => rhs; whnf
  conv at hbody => rhs; whnf
  subst hsc
  subst hbody
  have hst : st ≤ (Txt.strip x).cps.toList.length := by have := S.len; omega
  have hst2 : st ≤ (Txt.strip x).length := by have e : (Txt.strip x).length = (Txt.strip x).cps.toList.length := by simp [Str.length]
                                              omega
  delta loopMap postMap at F
  k_with "exec While BoolOp cons nil" => k_while (fun _ n b f k => 0 ≤ k ∧ k ≤ ((Txt.strip x).length : Int) ∧ RInv st (Txt.strip x).cps.toList n b f k) (fun _ n b f k => ((Txt.strip x).length : Int).toNat - k.toNat) "number" "behind" "is_behind" "at"
  k_with "state" => (refine ⟨by omega, by omega, ?_⟩; first | exact rinv_start rfl hst | exact rinv_dot (by with_reducible assumption) (by with_reducible assumption) (by with_reducible assumption) (by with_reducible assumption) | exact rinv_dig (by with_reducible assumption) (by with_reducible assumption) (by with_reducible assumption) (by with_reducible assumption) (by with_reducible assumption) (by first | (rw [if_pos (by with_reducible assumption)]; done) | (rw [if_neg (ne_true_of_eq_false (by with_reducible assumption))]; done)))
  k_steps
end
end
end
section
theorem reg_26 : True := by
  k_with_none
  (k_with "m_mem" => first | assumption | exact List.Mem.head _ | (refine' List.Mem.tail _ ?_; k_extra "m_mem"))
  (k_with "m_kmem" => assumption)
  (k_with "m_fill" => ((have mfill : PySem.Challenge.rw_no0231_01 = PySem.Challenge.rw_no0231_01 ∧ _root_.Mine.hd.heap_39 = _root_.Mine.hd.heap_39 := by (k_fill; exact ⟨rfl, rfl⟩)); clear mfill))
  (k_with "m_start" => (k_extra "m_fill"; unfold Spec; intros; refine wpAny_call ?_; k_dflt cell_enter))
  (k_with "m_news" => first | with_reducible assumption | (refine cb_drop (by with_reducible assumption) (fun p hp => .tail _ hp)) | (refine cb_drop (by with_reducible assumption) (fun p hp => .tail _ (.tail _ hp))) | (refine cb_drop (by with_reducible assumption) (fun p hp => .tail _ (.tail _ (.tail _ hp)))) | k_asm)
  (k_with "m_ifs" => (repeat' split) <;> first | rfl | (exfalso; first | contradiction | omega | simp_all))
  (k_with "m_after" => (intro t h' tk' ef F9 N9; (try dsimp only); (try k_fold)))
  (k_with "m_afterT" => (intro t ta tb h' tk' ef F9 N9 l1; (try k_lt l1); (try dsimp only); (try k_sweep); (try k_fold)))
  (k_with "m_len" => first | assumption | omega | ((try simp only [Str.length_append, lenA, lenB, lenC, lenD, lenE, lenF, lenG, lenH] at *); omega) | size_fits | l_fact)
  (k_with "call_field" => ((with_reducible show wpAny _ _ (call (Value.ref 60) _) _ _ _); k_dflt (refine' Spec.useV (field_spec _ _ _ _ _ ?q11h1 ?q11h2 ?q11h3) ?q11B ?q11F ?q11X ?q11N ?q11T ?q11k ?q11d ?q11u ?_; (case q11B => k_asm); (case q11F => k_asm); (case q11X => k_asm); (case q11N => k_asm); (case q11T => k_asm); (case q11k => first | exact rfl | assumption); (case q11d => ktr_room); (case q11u => ktr_units); (case q11h1 => k_extra "m_len"); (case q11h2 => k_extra "m_len"); (case q11h3 => k_extra "m_len"); k_extra "m_after")))
  (k_with "call_scaled" => ((with_reducible show wpAny _ _ (call (Value.ref 74) _) _ _ _); k_dflt (refine' Spec.useV (scaled_spec _ _ _ _ _ ?q13h1 ?q13h2 ?q13h3 ?q13h4) ?q13B ?q13F ?q13X ?q13N ?q13T ?q13k ?q13d ?q13u ?_; (case q13B => k_asm); (case q13F => k_asm); (case q13X => k_asm); (case q13N => k_asm); (case q13T => k_asm); (case q13k => first | exact rfl | assumption); (case q13d => ktr_room); (case q13u => ktr_units); (case q13h1 => k_extra "m_len"); (case q13h2 => k_extra "m_len"); (case q13h3 => k_extra "m_len"); (case q13h4 => k_extra "m_len"); k_extra "m_after")))
  (k_with "call_sign" => ((with_reducible show wpAny _ _ (call (Value.ref 67) _) _ _ _); k_dflt (refine' Spec.useV (sign_spec _ _ _) ?q14B ?q14F ?q14X ?q14N ?q14T ?q14k ?q14d ?q14u ?_; (case q14B => k_asm); (case q14F => k_asm); (case q14X => k_asm); (case q14N => k_asm); (case q14T => k_asm); (case q14k => first | exact rfl | assumption); (case q14d => ktr_room); (case q14u => ktr_units); k_extra "m_after")))
  (k_with "call_point" => ((with_reducible show wpAny _ _ (call (Value.ref 81) _) _ _ _); k_dflt (refine' Spec.useV (point_spec _ _ _ _ _ _ _ _ _ ?q15h1 ?q15h2 ?q15h3 ?q15h4 ?q15h5) ?q15B ?q15F ?q15X ?q15N ?q15T ?q15k ?q15d ?q15u ?_; (case q15B => k_asm); (case q15F => k_asm); (case q15X => k_asm); (case q15N => k_asm); (case q15T => k_asm); (case q15k => first | exact rfl | assumption); (case q15d => ktr_room); (case q15u => ktr_units); (case q15h1 => k_extra "m_len"); (case q15h2 => k_extra "m_len"); (case q15h3 => k_extra "m_len"); (case q15h4 => k_extra "m_len"); (case q15h5 => k_extra "m_len"); k_extra "m_after")))
  (k_with "call_str" => ((with_reducible show wpAny _ _ (call (Value.type "str") [Value.int _ _]) _ _ _); refine str_int ?q16h1 ?q16h2 ?_; (case q16h1 => k_extra "m_len"); (case q16h2 => k_extra "m_len"); intro ef; (try dsimp only); (try k_fold)))
  (k_with "call_fixed" => ((with_reducible show wpAny _ _ (call (Value.ref 88) _) _ _ _); k_dflt (refine' Spec.useV (edit_fixed_spec _ _ _ _ _ _ _ _ _ _ _ _ _ ?q21hm ?q21h1 ?q21h2 ?q21h3 ?q21h4 ?q21h5 ?q21h6 ?q21h7 ?q21h8 ?q21h9 ?q21h10) ?q21B ?q21F ?q21X ?q21N ?q21T ?q21k ?q21d ?q21u ?_; (case q21B => k_asm); (case q21F => k_asm); (case q21X => k_asm); (case q21N => k_asm); (case q21T => k_asm); (case q21k => first | exact rfl | assumption); (case q21d => ktr_room); (case q21u => ktr_units); (case q21hm => k_extra "m_mem"); (case q21h1 => k_extra "m_len"); (case q21h2 => k_extra "m_len"); (case q21h3 => k_extra "m_len"); (case q21h4 => k_extra "m_len"); (case q21h5 => k_extra "m_len"); (case q21h6 => k_extra "m_len"); (case q21h7 => k_extra "m_len"); (case q21h8 => k_extra "m_len"); (case q21h9 => k_extra "m_len"); (case q21h10 => k_extra "m_len"); k_extra "m_after")))
  (k_with "call_lead" => ((with_reducible show wpAny _ _ (call (Value.ref 95) _) _ _ _); k_dflt (refine' Spec.useT (leading_spec _ _ _ _ _ _ _ _ ?q25hm ?q25h1 ?q25h2 ?q25h3 ?q25h4 ?q25h5 ?q25h6) ?q25B ?q25F ?q25X ?q25N ?q25T ?q25k ?q25d ?q25u ?_; (case q25B => k_asm); (case q25F => k_asm); (case q25X => k_asm); (case q25N => k_asm); (case q25T => k_asm); (case q25k => first | exact rfl | assumption); (case q25d => ktr_room); (case q25u => ktr_units); (case q25hm => k_extra "m_mem"); (case q25h1 => k_extra "m_len"); (case q25h2 => k_extra "m_len"); (case q25h3 => k_extra "m_len"); (case q25h4 => k_extra "m_len"); (case q25h5 => k_extra "m_len"); (case q25h6 => k_extra "m_len"); k_extra "m_afterT")))
  (k_with "call_exponent" => ((with_reducible show wpAny _ _ (call (Value.ref 102) _) _ _ _); k_dflt (refine' Spec.useV (exponent_spec _ _ _ _ _ _ _ ?q26h1 ?q26h2 ?q26h3 ?q26h4) ?q26B ?q26F ?q26X ?q26N ?q26T ?q26k ?q26d ?q26u ?_; (case q26B => k_asm); (case q26F => k_asm); (case q26X => k_asm); (case q26N => k_asm); (case q26T => k_asm); (case q26k => first | exact rfl | assumption); (case q26d => ktr_room); (case q26u => ktr_units); (case q26h4 => k_asm); (case q26h1 => k_extra "m_len"); (case q26h2 => k_extra "m_len"); (case q26h3 => k_extra "m_len"); k_extra "m_after")))
  (k_with "call_exp" => ((with_reducible show wpAny _ _ (call (Value.ref 109) _) _ _ _); k_dflt (refine' Spec.useV (edit_exp_spec _ _ _ _ _ _ _ _ _ _ _ _ _ _ _ _ _ ?q31hm ?q31h1 ?q31h2 ?q31h3 ?q31h4 ?q31h5 ?q31h6 ?q31h7 ?q31h8 ?q31h9 ?q31hz ?q31h10 ?q31h11) ?q31B ?q31F ?q31X ?q31N ?q31T ?q31k ?q31d ?q31u ?_; (case q31B => k_asm); (case q31F => k_asm); (case q31X => k_asm); (case q31N => k_asm); (case q31T => k_asm); (case q31k => first | exact rfl | assumption); (case q31d => ktr_room); (case q31u => ktr_units); (case q31hm => k_extra "m_mem"); (case q31hz => k_asm); (case q31h1 => k_extra "m_len"); (case q31h2 => k_extra "m_len"); (case q31h3 => k_extra "m_len"); (case q31h4 => k_extra "m_len"); (case q31h5 => k_extra "m_len"); (case q31h6 => k_extra "m_len"); (case q31h7 => k_extra "m_len"); (case q31h8 => k_extra "m_len"); (case q31h9 => k_extra "m_len"); (case q31h10 => k_extra "m_len"); (case q31h11 => k_extra "m_len"); k_extra "m_after")))
  (k_with "call_isgen" => ((with_reducible show wpAny _ _ (call (Value.ref 116) _) _ _ _); k_dflt (refine' Spec.useV (is_general_spec _ _ _ _ _ _ _ _ ?q33hm ?q33h1 ?q33h2 ?q33h3 ?q33h4 ?q33h5 ?q33h6) ?q33B ?q33F ?q33X ?q33N ?q33T ?q33k ?q33d ?q33u ?_; (case q33B => k_asm); (case q33F => k_asm); (case q33X => k_asm); (case q33N => k_asm); (case q33T => k_asm); (case q33k => first | exact rfl | assumption); (case q33d => ktr_room); (case q33u => ktr_units); (case q33hm => k_extra "m_mem"); (case q33h1 => k_extra "m_len"); (case q33h2 => k_extra "m_len"); (case q33h3 => k_extra "m_len"); (case q33h4 => k_extra "m_len"); (case q33h5 => k_extra "m_len"); (case q33h6 => k_extra "m_len"); k_extra "m_after")))
  (k_with "call_general" => ((with_reducible show wpAny _ _ (call (Value.ref 123) _) _ _ _); k_dflt (refine' Spec.useV (edit_general_spec _ _ _ _ _ _ _ _ _ _ _ _ _ _ _ ?q40hm ?q40h1 ?q40h2 ?q40h3 ?q40h4 ?q40h5 ?q40h6 ?q40h7 ?q40h8 ?q40hz ?q40h9 ?q40h10) ?q40B ?q40F ?q40X ?q40N ?q40T ?q40k ?q40d ?q40u ?_; (case q40B => k_asm); (case q40F => k_asm); (case q40X => k_asm); (case q40N => k_asm); (case q40T => k_asm); (case q40k => first | exact rfl | assumption); (case q40d => ktr_room); (case q40u => ktr_units); (case q40hm => k_extra "m_mem"); (case q40hz => k_asm); (case q40h1 => k_extra "m_len"); (case q40h2 => k_extra "m_len"); (case q40h3 => k_extra "m_len"); (case q40h4 => k_extra "m_len"); (case q40h5 => k_extra "m_len"); (case q40h6 => k_extra "m_len"); (case q40h7 => k_extra "m_len"); (case q40h8 => k_extra "m_len"); (case q40h9 => k_extra "m_len"); (case q40h10 => k_extra "m_len"); k_extra "m_after")))
  (k_with "call_real" => ((with_reducible show wpAny _ _ (call (Value.ref 130) _) _ _ _); k_dflt (refine' Spec.useV (edit_real_spec _ _ _ _ _ _ _ _ _ _ _ _ _ ?q44hm ?q44hi ?q44hr ?q44hk ?q44h1 ?q44h2 ?q44h3 ?q44h4 ?q44h5 ?q44h6 ?q44h7 ?q44h8) ?q44B ?q44F ?q44X ?q44N ?q44T ?q44k ?q44d ?q44u ?_; (case q44B => k_asm); (case q44F => k_asm); (case q44X => k_asm); (case q44N => k_asm); (case q44T => k_asm); (case q44k => first | exact rfl | assumption); (case q44d => ktr_room); (case q44u => ktr_units); (case q44hm => k_extra "m_mem"); (case q44hr => assumption); (case q44hi => k_extra "m_mem"); (case q44hk => k_asm); (case q44h1 => k_extra "m_len"); (case q44h2 => k_extra "m_len"); (case q44h3 => k_extra "m_len"); (case q44h4 => k_extra "m_len"); (case q44h5 => k_extra "m_len"); (case q44h6 => k_extra "m_len"); (case q44h7 => k_extra "m_len"); (case q44h8 => k_extra "m_len"); k_extra "m_after")))
  (k_with "call_less" => ((with_reducible show wpAny _ _ (call (Value.ref 158) _) _ _ _); k_dflt (refine' Spec.useT (less_spec _ _ _ _ _ _ _ _ _ _ _ ?q47hm ?q47hm2 ?q47h1 ?q47h2 ?q47h3 ?q47h4 ?q47h5 ?q47h6 ?q47h7 ?q47h8) ?q47B ?q47F ?q47X ?q47N ?q47T ?q47k ?q47d ?q47u ?_; (case q47B => k_asm); (case q47F => k_asm); (case q47X => k_asm); (case q47N => k_asm); (case q47T => k_asm); (case q47k => first | exact rfl | assumption); (case q47d => ktr_room); (case q47u => ktr_units); (case q47hm => k_extra "m_mem"); (case q47hm2 => k_extra "m_mem"); (case q47h1 => k_extra "m_len"); (case q47h2 => k_extra "m_len"); (case q47h3 => k_extra "m_len"); (case q47h4 => k_extra "m_len"); (case q47h5 => k_extra "m_len"); (case q47h6 => k_extra "m_len"); (case q47h7 => k_extra "m_len"); (case q47h8 => k_extra "m_len"); k_extra "m_afterT")))
  (k_with "call_near" => ((with_reducible show wpAny _ _ (call (Value.ref 165) _) _ _ _); k_dflt (refine' Spec.useV (near_spec _ _ _ _ _ _ _ _ _ _ _ ?q51hm ?q51hm2 ?q51h1 ?q51h2 ?q51h3 ?q51h4 ?q51h5 ?q51h6 ?q51h7 ?q51h8) ?q51B ?q51F ?q51X ?q51N ?q51T ?q51k ?q51d ?q51u ?_; (case q51B => k_asm); (case q51F => k_asm); (case q51X => k_asm); (case q51N => k_asm); (case q51T => k_asm); (case q51k => first | exact rfl | assumption); (case q51d => ktr_room); (case q51u => ktr_units); (case q51hm => k_extra "m_mem"); (case q51hm2 => k_extra "m_mem"); (case q51h1 => k_extra "m_len"); (case q51h2 => k_extra "m_len"); (case q51h3 => k_extra "m_len"); (case q51h4 => k_extra "m_len"); (case q51h5 => k_extra "m_len"); (case q51h6 => k_extra "m_len"); (case q51h7 => k_extra "m_len"); (case q51h8 => k_extra "m_len"); k_extra "m_after")))
  (k_with "call_turned" => ((with_reducible show wpAny _ _ (call (Value.ref 172) _) _ _ _); k_dflt (refine' Spec.useV (turned_spec _ _ _ ?q52h1 ?q52h2) ?q52B ?q52F ?q52X ?q52N ?q52T ?q52k ?q52d ?q52u ?_; (case q52B => k_asm); (case q52F => k_asm); (case q52X => k_asm); (case q52N => k_asm); (case q52T => k_asm); (case q52k => first | exact rfl | assumption); (case q52d => ktr_room); (case q52u => ktr_units); (case q52h1 => k_extra "m_len"); (case q52h2 => k_extra "m_len"); k_extra "m_after")))
  (k_with "call_draw" => ((with_reducible show wpAny _ _ (call (Value.ref 137) _) _ _ _); k_dflt (refine' Spec.use (draw_spec _ _ _ _ _ _ _ _ _ _ ?q55hm ?q55hi ?q55hn ?q55h1 ?q55h2 ?q55h3 ?q55h4 ?q55h5) ?q55B ?q55F ?q55X ?q55N ?q55T ?q55k ?q55d ?q55u ?_; (case q55B => k_asm); (case q55F => k_asm); (case q55X => k_asm); (case q55N => first | k_asm | exact news_swap (by k_asm)); (case q55T => k_asm); (case q55k => first | exact rfl | assumption); (case q55d => ktr_room); (case q55u => ktr_units); (case q55hm => k_mem); (case q55hi => assumption); (case q55hn => first | assumption | k_all); (case q55h1 => k_extra "m_len"); (case q55h2 => k_extra "m_len"); (case q55h3 => k_extra "m_len"); (case q55h4 => k_extra "m_len"); (case q55h5 => k_extra "m_len"); intro v nw h' tk' hP F9 N9; obtain ⟨t', tv, e1, e2, ef1, ef2⟩ := hP; subst e1; subst e2; (try dsimp only); (try k_sweep); (try k_fold))))
  (k_with "call_lreal" => ((with_reducible show wpAny _ _ (call (Value.ref 144) _) _ _ _); k_dflt (refine' Spec.use (real_spec _ _ _ _ _ _ _ _ ?q57hm ?q57hi ?q57hn ?q57h1 ?q57h2 ?q57h3) ?q57B ?q57F ?q57X ?q57N ?q57T ?q57k ?q57d ?q57u ?_; (case q57B => k_asm); (case q57F => k_asm); (case q57X => k_asm); (case q57N => first | k_asm | exact news_swap (by k_asm)); (case q57T => k_asm); (case q57k => first | exact rfl | assumption); (case q57d => ktr_room); (case q57u => ktr_units); (case q57hm => k_mem); (case q57hi => assumption); (case q57hn => first | assumption | k_all); (case q57h1 => k_extra "m_len"); (case q57h2 => k_extra "m_len"); (case q57h3 => k_extra "m_len"); intro v nw h' tk' hP F9 N9; obtain ⟨tt, t', ta, tb, e1, e2, ef, l1, l2⟩ := hP; subst e1; subst e2; (try k_lt2 l1); (try k_lt l2); (try dsimp only); (try k_sweep); (try k_fold))))
  exact True.intro
theorem mulok_one (n : Int) : IntMulOk 1 n := IntMulOk.of_left (by decide +kernel)
theorem mulok_neg (n : Int) : IntMulOk (-1) n := IntMulOk.of_left (by decide +kernel)
section
open PySem.Builtin PySem.Builtin.Str
theorem reg_27 : True := by
  (k_with "compareOp In str str" => (refine in_b ?q68a ?_; (case q68a => with_reducible assumption)))
  (k_with "compareOp Eq str str" => (refine eq_b ?q69a ?_; (case q69a => with_reducible assumption)))
  (k_with "execs cons" => ((with_reducible show wpAny _ _ (execs (Stmt.While _ _ _ _ :: _) _) _ _ _); k_dflt (refine' read_loop ?q70hsc ?q70hbody ?q70B ?q70X ?q70T ?q70N (loop_shape ?q70F ?q70h0 ?q70h1 ?q70h2 ?q70h3 ?q70h4 ?q70h5) ?q70hl ?q70S ?q70hs ?q70hT ?q70hv ?q70hr ?_; (case q70S => with_reducible assumption); (case q70B => k_asm); (case q70F => k_asm); (case q70h0 => exact rfl); (case q70h1 => exact rfl); (case q70h2 => exact rfl); (case q70h3 => exact rfl); (case q70h4 => exact rfl); (case q70h5 => exact rfl); (case q70X => k_asm); (case q70T => k_asm); (case q70N => k_asm); (case q70hsc => rfl); (case q70hbody => rfl); (case q70hl => with_reducible assumption); (case q70hs => with_reducible first | exact mulok_one | exact mulok_neg); (case q70hT => with_reducible assumption); (case q70hv => with_reducible assumption); (case q70hr => omega); intro t ta tb h' tk' m' F' N' l1)))
  exact True.intro
theorem read_walkP {w : World} (news : Led) (x Tt : Str) (t1 : Tok) (body tail : List Nat) (p : Int) (hl : x.length = 44) (hs : 1 ≤ (Txt.strip x).length) (S : RShape x 0 body tail)
    (hA : (occurrences (Str.ofString "+-") (Txt.item (Txt.strip x) 0) 0 (Str.ofString "+-").length 1).isEmpty = true)
    (hT : Txt.slice (Txt.strip x) (some ((0 + body.length : Nat) : Int)) none = Tt) (hv : TailV Tt p) :
    Spec w 1 151 news [.str x t1] (PT news (fun ta tb => [.int (1 * (body.foldl rstep (0, 0, false)).1) ta, .int (p - (body.foldl rstep (0, 0, false)).2.1) tb]) True) := by
  k_extra "m_start"
  k_steps
  all_goals (walk_at "m_retII"; (case g => trivial); (case e1 => rfl); (case e2 => rfl))
theorem read_walkM {w : World} (news : Led) (x Tt : Str) (t1 : Tok) (body tail : List Nat) (p : Int) (hl : x.length = 44) (hs : 1 ≤ (Txt.strip x).length) (S : RShape x 1 body tail)
    (hA : (occurrences (Str.ofString "+-") (Txt.item (Txt.strip x) 0) 0 (Str.ofString "+-").length 1).isEmpty = false)
    (hB : (Txt.item (Txt.strip x) 0 == Str.ofString "-") = true)
    (hT : Txt.slice (Txt.strip x) (some ((1 + body.length : Nat) : Int)) none = Tt) (hv : TailV Tt p) :
    Spec w 1 151 news [.str x t1] (PT news (fun ta tb => [.int (-1 * (body.foldl rstep (0, 0, false)).1) ta, .int (p - (body.foldl rstep (0, 0, false)).2.1) tb]) True) := by
  k_extra "m_start"
  k_steps
  all_goals (walk_at "m_retII"; (case g => trivial); (case e1 => rfl); (case e2 => rfl))
end
structure ReadR (x : Str) (n e : Int) : Prop where
  ex : ∃ (neg : Bool) (body tail : List Nat) (pw : Int), RShape x (if neg = true then 1 else 0) body tail ∧ TailR tail pw ∧ (neg = true → (Txt.strip x).cps.toList.head? = some 45) ∧
    n = (if neg = true then -1 else 1) * (body.foldl rstep (0, 0, false)).1 ∧ e = pw - (body.foldl rstep (0, 0, false)).2.1
theorem strip_pos {x : Str} {n e : Int} (h : ReadR x n e) : 1 ≤ (Txt.strip x).length := by
  obtain ⟨neg, body, tail, pw, S, _⟩ := h.ex
  have h1 : (Txt.strip x).length = (Txt.strip x).cps.toList.length := by simp [Str.length]
  have h2 := S.len
  have h3 : 1 ≤ body.length := by
    cases hb : body with
    | nil => exact absurd hb S.ne
    | cons c r => simp
  omega
theorem read_spec {w : World} (news : Led) (x : Str) (n e : Int) (t1 : Tok) (h : ReadR x n e) (hl : x.length = 44) :
    Spec w 1 151 news [.str x t1] (PT news (fun ta tb => [.int n ta, .int e tb]) True) := by
  have hs := strip_pos h
  obtain ⟨neg, body, tail, pw, S, hT, hg, rfl, rfl⟩ := h.ex
  have hlen : ((Txt.strip x).length : Int) = ((Txt.strip x).cps.toList.length : Int) := by simp [Str.length]
  have hts := tail_slice S
  have hi := item_eq (y := Txt.strip x) (k := 0) (by decide) (by omega)
  cases neg with
  | false =>
    simp only [Bool.false_eq_true, if_false] at S hts ⊢
    have hA : (Builtin.Str.occurrences (Str.ofString "+-") (Txt.item (Txt.strip x) 0) 0 (Str.ofString "+-").length 1).isEmpty = true := by
      rw [hi]
      refine occ_sg_num _ ?_
      have e1 := S.eq
      rw [List.drop_zero] at e1
      cases hb : body with
      | nil => exact absurd hb S.ne
      | cons c r =>
        rw [e1, hb]
        exact S.num c (by rw [hb]; exact List.mem_cons_self ..)
    cases hT with
    | none => exact read_walkP news x _ t1 body [] 0 hl hs S hA hts (.none eq_empty)
    | exp letter sb ds p h1 h2 h3 =>
      refine read_walkP news x _ t1 body _ _ hl hs S hA hts (.exp sb p (ne_empty _ _) (by simp [Str.length]) ?_ ?_ ?_ ?_ ?_)
      · rw [item_head]; exact occ_ED _ h1
      · rw [cut_one]; exact ne_empty _ _
      · rw [cut_one, item_head]; exact sign_eq sb
      · rw [cut_one]; simp [Str.length]
      · rw [cut_one, cut_one]; exact h2
  | true =>
    have hg := hg rfl
    simp only [if_true] at S hts ⊢
    have hc : (Txt.strip x).cps.toList.getD (0 : Int).toNat 0 = 45 := by
      cases hb : (Txt.strip x).cps.toList with
      | nil => rw [hb] at hg; cases hg
      | cons c r => rw [hb] at hg; simpa using hg
    rw [hc] at hi
    have hA : (Builtin.Str.occurrences (Str.ofString "+-") (Txt.item (Txt.strip x) 0) 0 (Str.ofString "+-").length 1).isEmpty = false := by
      rw [hi]; decide +kernel
    have hB : (Txt.item (Txt.strip x) 0 == Str.ofString "-") = true := by
      rw [hi]; decide +kernel
    cases hT with
    | none => exact read_walkM news x _ t1 body [] 0 hl hs S hA hB hts (.none eq_empty)
    | exp letter sb ds p h1 h2 h3 =>
      refine read_walkM news x _ t1 body _ _ hl hs S hA hB hts (.exp sb p (ne_empty _ _) (by simp [Str.length]) ?_ ?_ ?_ ?_ ?_)
      · rw [item_head]; exact occ_ED _ h1
      · rw [cut_one]; exact ne_empty _ _
      · rw [cut_one, item_head]; exact sign_eq sb
      · rw [cut_one]; simp [Str.length]
      · rw [cut_one, cut_one]; exact h2
end
section
theorem list_item {prog : Program} {w : World} {A : Around} {E : Value → Shared → Prop} {s : Shared} {value slice : PySem.Expr} {l : Addr} {ta tb : Tok} {k : Int} {u : Tok} {Q : Value → Shared → Prop}
    (hl : s.heap.IsList l [Value.none, .int 2 ta, .int 3 tb].toArray) (h0 : 0 ≤ k) (h3 : k < 3) (h : ∀ sz, SzV sz (if k = 2 then 3 else 2) → Q sz s)
    (hs : subscripted slice false (.ref l) (.int k u) = operate [.ref l, .int k u] (getItem (.ref l) (.int k u)) := by with_unfolding_all rfl) :
    wpAny (model prog w) A (subscriptTail value slice (.ref l) (.int k u)) Q E s := by
  rcases (show k = 0 ∨ k = 1 ∨ k = 2 by omega) with rfl | rfl | rfl
  · exact tail_any hl.typeIs slot_list_getitem.lookup (wpAny_getItem_list hl (by decide) (by decide) rfl (h _ (.inl ⟨rfl, rfl⟩))) hs
  · exact tail_any hl.typeIs slot_list_getitem.lookup (wpAny_getItem_list hl (by decide) (by decide) rfl (h _ (.inr ⟨ta, rfl, by decide, by decide⟩))) hs
  · exact tail_any hl.typeIs slot_list_getitem.lookup (wpAny_getItem_list hl (by decide) (by decide) rfl (h _ (.inr ⟨tb, rfl, by decide, by decide⟩))) hs
end
section
open PyProof.Rows.LCg
/-- a tuple of the call's own, met in the ledger -/
def TupAt (ax : Addr) (its : Array Value) (news : Led) : Prop := False ∨ ∃ o, (ax, o) ∈ news ∧ o.cls = .type "tuple" ∧ ∃ n, o.data = .seq its n
theorem TupAt.tup {h₀ h : Heap} {L ax : Addr} {its : Array Value} {news : Led} (x : TupAt ax its news) (N : News h₀ L h news) : h.IsTuple ax its := by
  rcases x with x | ⟨o, hm, r⟩
  · exact x.elim
  · exact ⟨o, (N _ hm).1, r⟩
def CompSrcT (prog : Program) (w : World) (A : Around) (h₀ : Heap) (L : Addr) (m : Str → Option Value) (env : Env) (elt : Expr) (x : Str) (scope : Scope) (cl : List (Str × Addr)) (Fin : Shared → List Value → Led → Prop) (xv : Value) (s₁ : Shared) : Prop :=
  ∃ ax its news, xv = .ref ax ∧ A.handled = none ∧ Fr h₀ L s₁.heap m ∧ News h₀ L s₁.heap news ∧ TupAt ax its news ∧ its.size ≤ sizeLine ∧
    ∀ s₂ : Shared, (∃ h, s₂ = { s₁ with heap := h }) → CompRest prog w A h₀ L m env elt x scope cl s₂ (TupAt ax its) (fun i v => its[i]? = some v) (Fin s₂) its.size 0 [] news
section
variable {prog : Program} {w : World} {A : Around} {E : Value → Shared → Prop} {s : Shared} {h₀ : Heap} {L : Addr} {m : Str → Option Value} {env : Env}
theorem CompSrcT.ledger {elt : Expr} {x : Str} {scope : Scope} {cl : List (Str × Addr)} {Fin : Shared → List Value → Led → Prop} {ax : Addr} {its : Array Value} {k : Nat} {news : Led} {s₁ : Shared}
    (hh : A.handled = none) (F : Fr h₀ L s₁.heap m) (N : News h₀ L s₁.heap news) (hm : (ax, ({ cls := .type "tuple", data := .seq its k } : Obj)) ∈ news) (hsz : its.size ≤ sizeLine)
    (h : ∀ g, CompRest prog w A h₀ L m env elt x scope cl { s₁ with heap := g } (TupAt ax its) (fun i v => its[i]? = some v) (Fin { s₁ with heap := g }) its.size 0 [] news) :
    CompSrcT prog w A h₀ L m env elt x scope cl Fin (.ref ax) s₁ := ⟨ax, its, news, rfl, hh, F, N, .inr ⟨_, hm, rfl, _, rfl⟩, hsz, fun _ ⟨g, e⟩ => e ▸ h g⟩
theorem tup_st {ax I : Addr} {its : Array Value} : ∀ i (h h' : Heap) (o : Obj) (nw : Led), (h.IsTupleIter I ax i ∧ h.IsTuple ax its) → h.get? I = some o → h'.get? I = some o → (∀ b o, h₀.get? b = some o → h'.get? b = some o) → News h₀ L h' nw → TupAt ax its nw → (h'.IsTupleIter I ax i ∧ h'.IsTuple ax its) := by
  intro i h h' o nw st e e' _ N S
  refine ⟨?_, S.tup N⟩
  obtain ⟨o', q, r⟩ := st.1
  rw [e] at q
  cases q
  exact ⟨o, e', r⟩
theorem Assign_ListComp_Tup {elt iter : Expr} {x y : Str} {px py : Pos} {scope : Scope} {cl : List (Str × Addr)} {pos spos : Pos} {Q : Flow → Shared → Prop} (F₀ : Fr h₀ L s.heap m) (hLe : env.locals = L)
    (hsw : swapsWith (.ListComp elt [⟨.Name x px, iter, [], 0⟩] scope pos) (some (.Name y py)) spos.line env = pure true)
    (hclos : closureFor scope env = pure cl) (hcell : ∀ z ∈ scope.names, z.2 ≠ .cell) (hkind : scope.kind = .function)
    (hnames : ∀ z ∈ scope.names, z.2 = .local → scope.names.lookup z.1 = some .local) (hx : scope.names.lookup x = some .local)
    (hy : env.kindOf y = some .local) (hp : (env.scope.kind == .class || (env.scope.kind == .module && env.locals != env.globals)) = false)
    (h : wpAny (model prog w) A (eval iter env) (CompSrcT prog w A h₀ L m env elt x scope cl (fun s₂ => FinA h₀ L m s₂ y Q)) E s)
    (hs : ∀ x, foldedSetIterable iter env x = pure x := by intro _; rfl) :
    wpAny (model prog w) A (exec (.Assign [.Name y py] (.ListComp elt [⟨.Name x px, iter, [], 0⟩] scope pos) spos) env) Q E s := by
  subst hLe
  rw [exec_Assign_Name_used _ _ _ _ hsw]
  refine wpAny_bind (wpAny_standAt (wpAny_bind ?_))
  show wpAny _ A (do let _ ← comprehension (.ListComp elt [⟨.Name x px, iter, [], 0⟩] scope pos) scope env _ (newList []) false (eval iter env) (some (assign (.Name y py) env))) _ _ s
  refine wpAny_bind (wpAny_mono (wpAny_comprehension_free (use := some (assign (.Name y py) env)) (Q := fun _ s' => Q .next s') rfl hs hclos hkind hnames
    (wpAny_mono h (fun xv s₁ h₁ => ?_) fun _ _ e => e)) (fun _ s' hq => wpAny_pure (wpAny_pure hq)) fun _ _ e => e)
  obtain ⟨ax, its, news, rfl, hh, F, N, S, hsz, R⟩ := h₁
  have hl := S.tup N
  have hlt : ax < s₁.heap.objs.size := by obtain ⟨_, e, _⟩ := hl; exact Heap.lt_size e
  refine wpAny_pyIter_tuple hl ?_
  have up : ∀ b o, s₁.heap.get? b = some o → (s₁.heap.push { cls := .type "tuple_iterator", data := .fields #[.ref ax, .int 0 0] }).get? b = some o := fun b o e => Heap.get?_push_of_some _ e
  have hl' : (s₁.heap.push { cls := .type "tuple_iterator", data := .fields #[.ref ax, .int 0 0] }).IsTuple ax its := by
    obtain ⟨o, e, r⟩ := hl
    exact ⟨o, up _ _ e, r⟩
  refine block_U (Walks.tuple hh s₁.heap.objs.size ax (Nat.ne_of_lt hlt) its) hsz (fun i h st => by obtain ⟨o, e, _⟩ := st.1; exact ⟨o, e⟩) tup_st hcell hkind hx ⟨⟨_, Heap.get?_push_size _ rfl, rfl, rfl⟩, hl'⟩ (fun b hb => ?_)
    (F.keeps up) (N.grown up) (Nat.ne_of_lt F.ns.lt) (next_is_new F) (fun p hp => Nat.ne_of_lt (Heap.lt_size (N p hp).1)) S (R _ ⟨_, rfl⟩) ?_
  · show b < (s₁.heap.push _).objs.size
    rw [Heap.size_push]
    rcases List.mem_cons.mp hb with rfl | hb
    · exact Nat.lt_succ_self _
    · rw [List.mem_singleton.mp hb]; exact Nat.lt_succ_of_lt hlt
  · intro D C h' tk m' ys news' F' N' o1 hn hC₀ hD₀ hCL hDL hCD offC fin
    show wpAny _ A (assign (.Name y py) env (.ref D)) _ _ _
    refine wpAny_assign_Name (wpAny_storeName_local hy F'.ns (fun h₂ hn₂ hs₂ => ?_) hp)
    have hL₀ : h₀.get? env.locals = none := Heap.get?_none_of_le F'.above
    have F₂ : Fr h₀ env.locals h₂ (fun z => if z = y then some (.ref D) else m z) := ⟨hn₂, fun b o e => hs₂.extBut b o (fun q => by rw [q, hL₀] at e; cases e) (F'.keep b o e), F'.above⟩
    refine ⟨m', hn.sameBut hs₂ hCL, fun h'' hs'' => fin D h'' _ (F₂.change hs'' hCL hC₀) (fun p hp => ?_) o1⟩
    have z : h₂.get? p.1 = some p.2 := hs₂.extBut _ _ (N' p hp).2.1 (N' p hp).1
    refine ⟨hs''.extBut _ _ ?_ z, (N' p hp).2⟩
    rcases List.mem_cons.mp hp with rfl | hp
    · exact Ne.symm hCD
    · exact offC p hp
end
end
section
section
variable {prog : Program} {w : World} {A : Around} {E : Value → Shared → Prop} {s : Shared}
theorem nextOf_tuple {it t : Addr} {i : Nat} {items : Array Value} {x : Value} {Q : Value → Shared → Prop} (hit : s.heap.IsTupleIter it t i)
    (ht : s.heap.IsTuple t items) (hx : items[i]? = some x)
    (hQ : ∀ h', h'.IsTupleIter it t (i + 1) → Heap.SameBut it s.heap h' → Q x { s with heap := h' }) :
    wpAny (model prog w) A (Builtin.SmallTypes.nextOf (.ref it)) Q E s := by
  obtain ⟨o, ho, hc, hd⟩ := id hit
  obtain ⟨ol, hol, _, nl, hdl⟩ := ht
  unfold Builtin.SmallTypes.nextOf
  refine wpAny_bind (wpAny_callSpecial?_slot (name := Str.ofString "__next__") hit.typeIs F.slot_tuple_iterator_next
    (wpAny_call_entry F.slot_tuple_iterator_next hit.typeIs F.entry_tuple_iterator_next ?_ (F.args_tuple_iterator_next_1 _)))
  show wpAny _ _ (PySem.field (.ref it) 0 >>= _) _ _ s
  refine wpAny_bind (wpAny_field ho hd (x := .ref t) rfl ?_)
  show wpAny _ _ (if (Value.ref t == Value.none) = true then _ else _) _ _ s
  rw [if_neg (show ¬ ((Value.ref t == Value.none) = true) from Bool.false_ne_true)]
  show wpAny _ _ (PySem.field (.ref it) 1 >>= _) _ _ s
  refine wpAny_bind (wpAny_field ho hd (x := .int i 0) rfl ?_)
  show wpAny _ _ (seqItems? (.ref t) >>= _) _ _ s
  refine wpAny_bind (wpAny_seqItems hol hdl ?_)
  simp only [Int.toNat_natCast, hx]
  refine wpAny_bind (wpAny_setField ho hd (by simp) (wpAny_pure ⟨x, rfl, wpAny_pure (hQ _ ?_ (Heap.SameBut.update ..))⟩))
  exact ⟨_, Heap.get?_update_self _ ho (Obj.isFreed_of_fields (Obj.data_mapFields hd _)), (Obj.cls_mapFields ..).trans hc, by
    rw [Obj.data_mapFields hd]; simp [rawInt]⟩
abbrev IsTrip (h : Heap) (T : Addr) (a b c : Value) : Prop := h.get? T = some { cls := .type "tuple", data := .seq #[a, b, c] }
theorem updateSeq_trip {T : Addr} {a b c x : Value} {k : Nat} {Q : Unit → Shared → Prop} (hT : IsTrip s.heap T a b c)
    (h : ∀ h', h'.get? T = some { cls := .type "tuple", data := .seq ((#[a, b, c] : Array Value).setIfInBounds k x) } → Heap.SameBut T s.heap h' → Q () { s with heap := h' }) :
    wpAny (model prog w) A (updateSeq T (·.setIfInBounds k x)) Q E s := by
  refine wpAny_updateSeq hT rfl (h _ ?_ (Heap.SameBut.update ..))
  rw [Heap.get?_update_self _ hT rfl]
  simp [Obj.mapSeq]
/-- one turn of a zip over a list, a list and a tuple: its five own objects stand at n .. n + 5 (iterators n, n + 1, n + 2; the tuple of iterators n + 3; the handed tuple n + 4; the zip n + 5) -/
theorem zip3_item {n l1 l2 l3 : Nat} {k : Nat} {xs ys zs : Array Value} {x y z a b c : Value} {Q : Value → Shared → Prop} (b1 : l1 < n) (b2 : l2 < n) (b3 : l3 < n)
    (hz : IsZip s.heap (n + 5) (n + 3) (n + 4) .none) (hTI : IsTrip s.heap (n + 3) (.ref n) (.ref (n + 1)) (.ref (n + 2))) (hTO : IsTrip s.heap (n + 4) a b c)
    (h1 : s.heap.IsListIter n l1 k) (h2 : s.heap.IsListIter (n + 1) l2 k) (h3 : s.heap.IsTupleIter (n + 2) l3 k) (hl1 : s.heap.IsList l1 xs) (hl2 : s.heap.IsList l2 ys) (hl3 : s.heap.IsTuple l3 zs)
    (hx : xs[k]? = some x) (hy : ys[k]? = some y) (hzz : zs[k]? = some z)
    (hQ : ∀ h', IsZip h' (n + 5) (n + 3) (n + 4) (rawInt s.heap.objs.size) → IsTrip h' (n + 4) x y z → h'.IsListIter n l1 (k + 1) → h'.IsListIter (n + 1) l2 (k + 1) → h'.IsTupleIter (n + 2) l3 (k + 1) → IsTrip h' s.heap.objs.size x y z → h'.objs.size = s.heap.objs.size + 1 →
      (∀ c o, c ≠ n + 5 → c ≠ n + 4 → c ≠ n → c ≠ n + 1 → c ≠ n + 2 → s.heap.get? c = some o → h'.get? c = some o) → Q (.ref s.heap.objs.size) { s with heap := h' }) :
    wpAny (model prog w) A (Builtin.«zip.__next__» ⟨[.ref (n + 5)], []⟩) (fun fin s' => ∃ v, fin = .done (.ret v) ∧ Q v s') E s := by
  show wpAny _ _ (PySem.field (.ref (n + 5)) 2 >>= _) _ _ _
  refine wpAny_bind (wpAny_field hz rfl (x := .bool false) rfl ?_)
  show wpAny _ _ (PySem.field (.ref (n + 5)) 3 >>= _) _ _ _
  refine wpAny_bind (wpAny_field hz rfl (x := .ref (n + 3)) rfl ?_)
  refine wpAny_bind (wpAny_seqItems hTI rfl ?_)
  show wpAny _ _ (Builtin.SmallTypes.ownedTupleIsFree (.ref (n + 5)) >>= _) _ _ _
  refine wpAny_bind ?_
  unfold Builtin.SmallTypes.ownedTupleIsFree
  refine wpAny_bind (wpAny_field hz rfl (x := .none) rfl (wpAny_pure ?_))
  simp only [if_true]
  refine wpAny_bind (wpAny_rule ?_)
  refine wpAny_bind (wpAny_field hz rfl (x := .ref (n + 4)) rfl ?_)
  refine wpAny_bind (wpAny_setField_rec hz (by simp) fun h₁ hz₁ hs₁ => ?_)
  replace hz₁ : IsZip h₁ (n + 5) (n + 3) (n + 4) .ellipsis := hz₁
  have e₁ := hs₁.extBut
  refine wpAny_bind ?_
  simp only [List.zipIdx_cons, List.zipIdx_nil, List.forIn_cons, List.forIn_nil]
  -- the first
  refine wpAny_bind (wpAny_bind (wpAny_onRaise ?_))
  show wpAny _ _ (Builtin.SmallTypes.nextOf (.ref n) >>= _) _ _ _
  refine wpAny_bind (wpAny_nextOf_list_item (h1.extBut e₁ (show n ≠ n + 5 by omega)) (hl1.extBut e₁ (show l1 ≠ n + 5 by omega)) hx fun h₂ h1₂ hs₂ => wpAny_pure ?_)
  have e₂ := hs₂.extBut
  have hTO₂ : IsTrip h₂ (n + 4) a b c := e₂ _ _ (show n + 4 ≠ n by omega) (e₁ _ _ (show n + 4 ≠ n + 5 by omega) hTO)
  refine wpAny_bind (wpAny_seqItems hTO₂ rfl ?_)
  refine wpAny_bind (updateSeq_trip hTO₂ fun h₃ hTO₃ hs₃ => ?_)
  replace hTO₃ : IsTrip h₃ (n + 4) x b c := hTO₃
  have e₃ := hs₃.extBut
  refine wpAny_bind (wpAny_letGo (wpAny_pure ?_))
  -- the second
  refine wpAny_bind (wpAny_bind (wpAny_onRaise ?_))
  show wpAny _ _ (Builtin.SmallTypes.nextOf (.ref (n + 1)) >>= _) _ _ _
  refine wpAny_bind (wpAny_nextOf_list_item (((h2.extBut e₁ (show n + 1 ≠ n + 5 by omega)).extBut e₂ (show n + 1 ≠ n by omega)).extBut e₃ (show n + 1 ≠ n + 4 by omega))
    (((hl2.extBut e₁ (show l2 ≠ n + 5 by omega)).extBut e₂ (show l2 ≠ n by omega)).extBut e₃ (show l2 ≠ n + 4 by omega)) hy fun h₄ h2₄ hs₄ => wpAny_pure ?_)
  have e₄ := hs₄.extBut
  have hTO₄ : IsTrip h₄ (n + 4) x b c := e₄ _ _ (show n + 4 ≠ n + 1 by omega) hTO₃
  refine wpAny_bind (wpAny_seqItems hTO₄ rfl ?_)
  refine wpAny_bind (updateSeq_trip hTO₄ fun h₅ hTO₅ hs₅ => ?_)
  replace hTO₅ : IsTrip h₅ (n + 4) x y c := hTO₅
  have e₅ := hs₅.extBut
  refine wpAny_bind (wpAny_letGo (wpAny_pure ?_))
  -- the third
  refine wpAny_bind (wpAny_bind (wpAny_onRaise ?_))
  show wpAny _ _ (Builtin.SmallTypes.nextOf (.ref (n + 2)) >>= _) _ _ _
  refine wpAny_bind (nextOf_tuple (((((h3.extBut e₁ (show n + 2 ≠ n + 5 by omega)).extBut e₂ (show n + 2 ≠ n by omega)).extBut e₃ (show n + 2 ≠ n + 4 by omega)).extBut e₄ (show n + 2 ≠ n + 1 by omega)).extBut e₅ (show n + 2 ≠ n + 4 by omega))
    (((((hl3.extBut e₁ (show l3 ≠ n + 5 by omega)).extBut e₂ (show l3 ≠ n by omega)).extBut e₃ (show l3 ≠ n + 4 by omega)).extBut e₄ (show l3 ≠ n + 1 by omega)).extBut e₅ (show l3 ≠ n + 4 by omega)) hzz fun h₆ h3₆ hs₆ => wpAny_pure ?_)
  have e₆ := hs₆.extBut
  have hTO₆ : IsTrip h₆ (n + 4) x y c := e₆ _ _ (show n + 4 ≠ n + 2 by omega) hTO₅
  refine wpAny_bind (wpAny_seqItems hTO₆ rfl ?_)
  refine wpAny_bind (updateSeq_trip hTO₆ fun h₇ hTO₇ hs₇ => ?_)
  replace hTO₇ : IsTrip h₇ (n + 4) x y z := hTO₇
  have e₇ := hs₇.extBut
  refine wpAny_bind (wpAny_letGo (wpAny_pure (wpAny_pure ?_)))
  -- the tuple is handed out
  refine wpAny_bind (wpAny_seqItems hTO₇ rfl ?_)
  refine wpAny_bind (wpAny_newTuple ?_)
  have hsz : h₇.objs.size = s.heap.objs.size := by rw [hs₇.1, hs₆.1, hs₅.1, hs₄.1, hs₃.1, hs₂.1, hs₁.1]
  have all : ∀ c o, c ≠ n + 4 → c ≠ n → c ≠ n + 1 → c ≠ n + 2 → h₁.get? c = some o → h₇.get? c = some o := fun c o c2 c3 c4 c5 e =>
    e₇ _ _ c2 (e₆ _ _ c5 (e₅ _ _ c2 (e₄ _ _ c4 (e₃ _ _ c2 (e₂ _ _ c3 e)))))
  have hz₇ : IsZip h₇ (n + 5) (n + 3) (n + 4) .ellipsis := all _ _ (by omega) (by omega) (by omega) (by omega) hz₁
  have h1₇ : h₇.IsListIter n l1 (k + 1) := h1₂.at fun o e => e₇ _ _ (show n ≠ n + 4 by omega) (e₆ _ _ (show n ≠ n + 2 by omega) (e₅ _ _ (show n ≠ n + 4 by omega) (e₄ _ _ (show n ≠ n + 1 by omega) (e₃ _ _ (show n ≠ n + 4 by omega) e))))
  have h2₇ : h₇.IsListIter (n + 1) l2 (k + 1) := h2₄.at fun o e => e₇ _ _ (show n + 1 ≠ n + 4 by omega) (e₆ _ _ (show n + 1 ≠ n + 2 by omega) (e₅ _ _ (show n + 1 ≠ n + 4 by omega) e))
  have h3₇ : h₇.IsTupleIter (n + 2) l3 (k + 1) := h3₆.at fun o e => e₇ _ _ (show n + 2 ≠ n + 4 by omega) e
  have hzlt : n + 5 < h₇.objs.size := Heap.lt_size hz₇
  show wpAny _ _ (Builtin.SmallTypes.ownedTupleHandOut (.ref (n + 5)) (.ref h₇.objs.size) >>= _) _ _ _
  refine wpAny_bind ?_
  unfold Builtin.SmallTypes.ownedTupleHandOut
  have hz₈ : IsZip (h₇.push { cls := .type "tuple", data := .seq #[x, y, z] }) (n + 5) (n + 3) (n + 4) .ellipsis := Heap.get?_push_of_some _ hz₇
  refine wpAny_bind (wpAny_setField_rec hz₈ (by simp) fun h₉ hz₉ hs₉ => ?_)
  replace hz₉ : IsZip h₉ (n + 5) (n + 3) (n + 4) (rawInt h₇.objs.size) := hz₉
  refine wpAny_setField_rec hz₉ (by simp) fun hA hzA hsA => ?_
  replace hzA : IsZip hA (n + 5) (n + 3) (n + 4) (rawInt h₇.objs.size) := hzA
  have up : ∀ c o, c ≠ n + 5 → h₇.get? c = some o → hA.get? c = some o := fun c o c1 e => hsA.extBut _ _ c1 (hs₉.extBut _ _ c1 (Heap.get?_push_of_some _ e))
  have hTA : IsTrip hA h₇.objs.size x y z := hsA.extBut _ _ (Nat.ne_of_gt hzlt) (hs₉.extBut _ _ (Nat.ne_of_gt hzlt) (Heap.get?_push_size _ rfl))
  have hzs : hA.objs.size = h₇.objs.size + 1 := by rw [hsA.1, hs₉.1, Heap.size_push]
  rw [hsz] at hzA hTA hzs
  refine wpAny_pure ⟨_, rfl, ?_⟩
  show Q (.ref h₇.objs.size) _
  rw [hsz]
  exact hQ hA hzA (up _ _ (by omega) hTO₇) (h1₇.at fun o e => up _ o (by omega) e) (h2₇.at fun o e => up _ o (by omega) e) (h3₇.at fun o e => up _ o (by omega) e) hTA hzs fun c o c1 c2 c3 c4 c5 e => up c o c1 (all c o c2 c3 c4 c5 (e₁ _ _ c1 e))
/-- its end: the first list is at its end -/
theorem zip3_end {n l1 : Nat} {k : Nat} {xs : Array Value} {a b c : Value} {Q : Fin → Shared → Prop} (hh : A.handled = none) (b1 : l1 < n)
    (hz : IsZip s.heap (n + 5) (n + 3) (n + 4) .none) (hTI : IsTrip s.heap (n + 3) (.ref n) (.ref (n + 1)) (.ref (n + 2)))
    (h1 : s.heap.IsListIter n l1 k) (hl1 : s.heap.IsList l1 xs) (hx : xs[k]? = none)
    (hE : ∀ h' e, (∀ c o, c ≠ n + 5 → c ≠ n → s.heap.get? c = some o → h'.get? c = some o) → (∃ o, h'.get? e = some o ∧ o.cls = .type "StopIteration") → E (.ref e) { s with heap := h' }) :
    wpAny (model prog w) A (Builtin.«zip.__next__» ⟨[.ref (n + 5)], []⟩) Q E s := by
  show wpAny _ _ (PySem.field (.ref (n + 5)) 2 >>= _) _ _ _
  refine wpAny_bind (wpAny_field hz rfl (x := .bool false) rfl ?_)
  show wpAny _ _ (PySem.field (.ref (n + 5)) 3 >>= _) _ _ _
  refine wpAny_bind (wpAny_field hz rfl (x := .ref (n + 3)) rfl ?_)
  refine wpAny_bind (wpAny_seqItems hTI rfl ?_)
  show wpAny _ _ (Builtin.SmallTypes.ownedTupleIsFree (.ref (n + 5)) >>= _) _ _ _
  refine wpAny_bind ?_
  unfold Builtin.SmallTypes.ownedTupleIsFree
  refine wpAny_bind (wpAny_field hz rfl (x := .none) rfl (wpAny_pure ?_))
  simp only [if_true]
  refine wpAny_bind (wpAny_rule ?_)
  refine wpAny_bind (wpAny_field hz rfl (x := .ref (n + 4)) rfl ?_)
  refine wpAny_bind (wpAny_setField_rec hz (by simp) fun h₁ hz₁ hs₁ => ?_)
  replace hz₁ : IsZip h₁ (n + 5) (n + 3) (n + 4) .ellipsis := hz₁
  have e₁ := hs₁.extBut
  refine wpAny_bind ?_
  simp only [List.zipIdx_cons, List.zipIdx_nil, List.forIn_cons, List.forIn_nil]
  refine wpAny_bind (wpAny_bind (wpAny_onRaise ?_))
  show wpAny _ _ (Builtin.SmallTypes.nextOf (.ref n) >>= _) _ _ _
  refine wpAny_bind (wpAny_nextOf_list_end hh (h1.extBut e₁ (show n ≠ n + 5 by omega)) (hl1.extBut e₁ (show l1 ≠ n + 5 by omega)) hx fun h₂ e hs₂ he => ?_)
  obtain ⟨oe, hoe, hce⟩ := he
  have hz₂ : IsZip h₂ (n + 5) (n + 3) (n + 4) .ellipsis := hs₂ _ _ (show n + 5 ≠ n by omega) hz₁
  have hez : e ≠ n + 5 := fun x => by subst x; rw [hz₂] at hoe; cases hoe; simp at hce
  exact wpAny_setField_rec hz₂ (by simp) fun h₃ _ hs₃ => hE h₃ e (fun c o c1 c3 x => hs₃.extBut _ _ c1 (hs₂ _ _ c3 (e₁ _ _ c1 x))) ⟨oe, hs₃.extBut _ _ hez hoe, hce⟩
end
end
section
section
variable {prog : Program} {w : World} {A : Around} {E : Value → Shared → Prop} {s : Shared}
theorem zip3_next {n l1 l2 l3 : Nat} {k : Nat} {xs ys zs : Array Value} {x y z a b c : Value} {Q : Option Value → Shared → Prop} (b1 : l1 < n) (b2 : l2 < n) (b3 : l3 < n)
    (hz : IsZip s.heap (n + 5) (n + 3) (n + 4) .none) (hTI : IsTrip s.heap (n + 3) (.ref n) (.ref (n + 1)) (.ref (n + 2))) (hTO : IsTrip s.heap (n + 4) a b c)
    (h1 : s.heap.IsListIter n l1 k) (h2 : s.heap.IsListIter (n + 1) l2 k) (h3 : s.heap.IsTupleIter (n + 2) l3 k) (hl1 : s.heap.IsList l1 xs) (hl2 : s.heap.IsList l2 ys) (hl3 : s.heap.IsTuple l3 zs)
    (hx : xs[k]? = some x) (hy : ys[k]? = some y) (hzz : zs[k]? = some z)
    (hQ : ∀ h', IsZip h' (n + 5) (n + 3) (n + 4) (rawInt s.heap.objs.size) → IsTrip h' (n + 4) x y z → h'.IsListIter n l1 (k + 1) → h'.IsListIter (n + 1) l2 (k + 1) → h'.IsTupleIter (n + 2) l3 (k + 1) → IsTrip h' s.heap.objs.size x y z → h'.objs.size = s.heap.objs.size + 1 →
      (∀ c o, c ≠ n + 5 → c ≠ n + 4 → c ≠ n → c ≠ n + 1 → c ≠ n + 2 → s.heap.get? c = some o → h'.get? c = some o) → Q (some (.ref s.heap.objs.size)) { s with heap := h' }) :
    wpAny (model prog w) A (pyNext (.ref (n + 5))) Q E s := by
  have hT : s.TypeIs (.ref (n + 5)) "zip" := ⟨_, hz, rfl⟩
  unfold pyNext
  exact wpAny_bind (wpAny_attempt (wpAny_callSpecial?_slot (name := Str.ofString "__next__") hT F.slot_zip_next
    (wpAny_call_entry F.slot_zip_next hT F.entry_zip_next
      (zip3_item b1 b2 b3 hz hTI hTO h1 h2 h3 hl1 hl2 hl3 hx hy hzz fun h' a1 a2 a3 a4 a5 a6 a7 a8 => wpAny_pure (hQ h' a1 a2 a3 a4 a5 a6 a7 a8)) (F.args_zip_next_1 _))))
theorem zip3_done {n l1 : Nat} {k : Nat} {xs : Array Value} {Q : Option Value → Shared → Prop} (hh : A.handled = none) (b1 : l1 < n)
    (hz : IsZip s.heap (n + 5) (n + 3) (n + 4) .none) (hTI : IsTrip s.heap (n + 3) (.ref n) (.ref (n + 1)) (.ref (n + 2)))
    (h1 : s.heap.IsListIter n l1 k) (hl1 : s.heap.IsList l1 xs) (hx : xs[k]? = none)
    (hQ : ∀ h', (∀ c o, c ≠ n + 5 → c ≠ n → s.heap.get? c = some o → h'.get? c = some o) → Q none { s with heap := h' }) : wpAny (model prog w) A (pyNext (.ref (n + 5))) Q E s := by
  have hT : s.TypeIs (.ref (n + 5)) "zip" := ⟨_, hz, rfl⟩
  unfold pyNext
  refine wpAny_bind (wpAny_attempt (wpAny_callSpecial?_slot (name := Str.ofString "__next__") hT F.slot_zip_next
    (wpAny_call_entry F.slot_zip_next hT F.entry_zip_next (zip3_end (a := .none) (b := .none) (c := .none) hh b1 hz hTI h1 hl1 hx fun h' e hk he => ?_) (F.args_zip_next_1 _))))
  obtain ⟨o, ho, hc⟩ := he
  refine wpAny_bind (wpAny_isInstance (T := "StopIteration") (b := true) ⟨o, ho, hc⟩ isSubtype_stop ?_)
  exact wpAny_pure (hQ _ hk)
theorem typeCall_zip_3 (a b c : Value) : checkTypeCall "zip" ⟨[a, b, c], []⟩ = pure () := by kernel_rfl
theorem newCall_zip_3 (a b c : Value) : checkBuiltinCall "zip.__new__" ⟨[.type "zip", a, b, c], []⟩ = pure () := by kernel_rfl
theorem args_object_init_4 (a b c d : Value) : argsOk "object.__init__" ⟨[a, b, c, d], []⟩ := by
  unfold argsOk; rw [signature?_of (id := "object.__init__") (n := ['_', '_', 't', 'i', 'n', 'i', '_', '_']) (o := ['t', 'c', 'e', 'j', 'b', 'o']) (by kernel_rfl) F.owner_object]; kernel_rfl
abbrev z3a (h : Heap) (l1 : Addr) : Heap := h.push { cls := .type "list_iterator", data := .fields #[.ref l1, .int 0 0] }
abbrev z3b (h : Heap) (l1 l2 : Addr) : Heap := (z3a h l1).push { cls := .type "list_iterator", data := .fields #[.ref l2, .int 0 0] }
abbrev z3c (h : Heap) (l1 l2 l3 : Addr) : Heap := (z3b h l1 l2).push { cls := .type "tuple_iterator", data := .fields #[.ref l3, .int 0 0] }
abbrev z3d (h : Heap) (l1 l2 l3 : Addr) : Heap := (z3c h l1 l2 l3).push { cls := .type "tuple", data := .seq #[.ref h.objs.size, .ref (z3a h l1).objs.size, .ref (z3b h l1 l2).objs.size] }
abbrev z3e (h : Heap) (l1 l2 l3 : Addr) : Heap := (z3d h l1 l2 l3).push { cls := .type "tuple", data := .seq #[.none, .none, .none] }
abbrev z3f (h : Heap) (l1 l2 l3 : Addr) : Heap := (z3e h l1 l2 l3).push { cls := .type "zip", data := .fields #[.none, .bool false, .bool false, .ref (z3c h l1 l2 l3).objs.size, .ref (z3d h l1 l2 l3).objs.size] }
set_option maxHeartbeats 8000000 in
theorem meets_zip3 (l1 l2 l3 : Addr) (xs ys zs : Array Value) :
    Meets (Builtin.«zip.__new__» ⟨[.type "zip", .ref l1, .ref l2, .ref l3], []⟩) (fun _ R s => s.heap.IsList l1 xs ∧ s.heap.IsList l2 ys ∧ s.heap.IsTuple l3 zs ∧
      R (.ok (.ret (.ref (z3e s.heap l1 l2 l3).objs.size))) { s with heap := z3f s.heap l1 l2 l3 }) :=
  .of_wp fun prog w A R s h => by
    obtain ⟨hp, g, d, tk, os⟩ := s; obtain ⟨hl1, hl2, hl3, h⟩ := h
    have hsub := sub_zip
    have hL1 : Heap.IsList (Shared.heap ⟨hp, g, d, tk, os⟩) l1 xs := hl1
    have hL2 : Heap.IsList (Shared.heap ⟨hp.push { cls := .type "list_iterator", data := .fields #[.ref l1, .int 0 0] }, g, d, tk, os⟩) l2 ys := Heap.IsList.push hl2 _
    have hL3 : Heap.IsTuple (Shared.heap ⟨(hp.push { cls := .type "list_iterator", data := .fields #[.ref l1, .int 0 0] }).push { cls := .type "list_iterator", data := .fields #[.ref l2, .int 0 0] }, g, d, tk, os⟩) l3 zs := (Heap.IsTuple.push hl3 _).push _
    wp_walk using wpAny_pyIter_list hL1, wpAny_pyIter_list hL2, wpAny_pyIter_tuple hL3
    exact ⟨_, rfl, h⟩
theorem call_zip3 {l1 l2 l3 : Addr} {xs ys zs : Array Value} {Q : Value → Shared → Prop} (hl1 : s.heap.IsList l1 xs) (hl2 : s.heap.IsList l2 ys) (hl3 : s.heap.IsTuple l3 zs) (n : Nat) (hn : n = s.heap.objs.size)
    (h : ∀ h', IsZip h' (n + 5) (n + 3) (n + 4) .none → IsTrip h' (n + 3) (.ref n) (.ref (n + 1)) (.ref (n + 2)) →
      IsTrip h' (n + 4) .none .none .none → h'.IsListIter n l1 0 → h'.IsListIter (n + 1) l2 0 → h'.IsTupleIter (n + 2) l3 0 → h'.objs.size = n + 6 →
      (∀ c o, s.heap.get? c = some o → h'.get? c = some o) → Q (.ref (n + 5)) { s with heap := h' }) :
    wpAny (model prog w) A (call (.type "zip") [.ref l1, .ref l2, .ref l3]) Q E s := by
  subst hn
  refine callType_new F.called_zip (by decide) (typeCall_zip_3 _ _ _) (newCall_zip_3 _ _ _) (fun obj => args_object_init_4 obj _ _ _) F.entry_zip_new
    (meets_zip3 l1 l2 l3 xs ys zs) ⟨hl1, hl2, hl3, ?_⟩
  have z1 : (z3a s.heap l1).objs.size = s.heap.objs.size + 1 := Heap.size_push ..
  have z2 : (z3b s.heap l1 l2).objs.size = s.heap.objs.size + 2 := by rw [Heap.size_push, z1]
  have z3 : (z3c s.heap l1 l2 l3).objs.size = s.heap.objs.size + 3 := by rw [Heap.size_push, z2]
  have z4 : (z3d s.heap l1 l2 l3).objs.size = s.heap.objs.size + 4 := by rw [Heap.size_push, z3]
  have z5 : (z3e s.heap l1 l2 l3).objs.size = s.heap.objs.size + 5 := by rw [Heap.size_push, z4]
  have z6 : (z3f s.heap l1 l2 l3).objs.size = s.heap.objs.size + 6 := by rw [Heap.size_push, z5]
  have g6 : (z3f s.heap l1 l2 l3).get? (z3e s.heap l1 l2 l3).objs.size = some _ := Heap.get?_push_size _ rfl
  have g5 : (z3f s.heap l1 l2 l3).get? (z3d s.heap l1 l2 l3).objs.size = some _ := Heap.get?_push_of_some _ (Heap.get?_push_size _ rfl)
  have g4 : (z3f s.heap l1 l2 l3).get? (z3c s.heap l1 l2 l3).objs.size = some _ := Heap.get?_push_of_some _ (Heap.get?_push_of_some _ (Heap.get?_push_size _ rfl))
  have g3 : (z3f s.heap l1 l2 l3).get? (z3b s.heap l1 l2).objs.size = some _ := Heap.get?_push_of_some _ (Heap.get?_push_of_some _ (Heap.get?_push_of_some _ (Heap.get?_push_size _ rfl)))
  have g2 : (z3f s.heap l1 l2 l3).get? (z3a s.heap l1).objs.size = some _ := Heap.get?_push_of_some _ (Heap.get?_push_of_some _ (Heap.get?_push_of_some _ (Heap.get?_push_of_some _ (Heap.get?_push_size _ rfl))))
  have g1 : (z3f s.heap l1 l2 l3).get? s.heap.objs.size = some _ := Heap.get?_push_of_some _ (Heap.get?_push_of_some _ (Heap.get?_push_of_some _ (Heap.get?_push_of_some _ (Heap.get?_push_of_some _ (Heap.get?_push_size _ rfl)))))
  show _ ∧ _
  rw [z3, z4, z5] at g6
  rw [z4] at g5
  rw [z1, z2, z3] at g4
  rw [z2] at g3
  rw [z1] at g2
  rw [z5]
  exact ⟨⟨_, g6, rfl⟩, h _ g6 g4 g5 ⟨_, g1, rfl, rfl⟩ ⟨_, g2, rfl, rfl⟩ ⟨_, g3, rfl, rfl⟩ z6 fun c o x =>
    Heap.get?_push_of_some _ (Heap.get?_push_of_some _ (Heap.get?_push_of_some _ (Heap.get?_push_of_some _ (Heap.get?_push_of_some _ (Heap.get?_push_of_some _ x)))))⟩
end
end
section
section
variable {prog : Program} {w : World} {A : Around} {E : Value → Shared → Prop} {s : Shared}
abbrev Z3St (n l1 l2 l3 : Nat) (xs ys zs : Array Value) (i : Nat) (h : Heap) : Prop :=
  IsZip h (n + 5) (n + 3) (n + 4) .none ∧ IsTrip h (n + 3) (.ref n) (.ref (n + 1)) (.ref (n + 2)) ∧ (∃ a b c, IsTrip h (n + 4) a b c) ∧ h.IsListIter n l1 i ∧ h.IsListIter (n + 1) l2 i ∧ h.IsTupleIter (n + 2) l3 i ∧ h.IsList l1 xs ∧ h.IsList l2 ys ∧ h.IsTuple l3 zs
theorem zip3_walks (hh : A.handled = none) (n l1 l2 l3 : Nat) (b1 : l1 < n) (b2 : l2 < n) (b3 : l3 < n) (xs ys zs : Array Value) (hy : ys.size = xs.size) (hz : zs.size = xs.size) :
    WalksU prog w A (n + 5) [n + 5, n + 3, n + 4, n, n + 1, n + 2, l1, l2, l3] [n + 5, n + 4, n, n + 1, n + 2] xs.size
      (fun i vals => ∃ x y z, xs[i]? = some x ∧ ys[i]? = some y ∧ zs[i]? = some z ∧ vals = #[x, y, z])
      (Z3St n l1 l2 l3 xs ys zs)
      (fun i T h => IsZip h (n + 5) (n + 3) (n + 4) (rawInt T) ∧ IsTrip h (n + 3) (.ref n) (.ref (n + 1)) (.ref (n + 2)) ∧ (∃ a b c, IsTrip h (n + 4) a b c) ∧ h.IsListIter n l1 (i + 1) ∧ h.IsListIter (n + 1) l2 (i + 1) ∧ h.IsTupleIter (n + 2) l3 (i + 1) ∧ h.IsList l1 xs ∧ h.IsList l2 ys ∧ h.IsTuple l3 zs ∧
        n + 5 < T) where
  sub := fun c hc => by
    simp only [List.mem_cons, List.not_mem_nil, or_false] at hc
    rcases hc with rfl | rfl | rfl | rfl | rfl <;> simp
  frame := fun i h h' hst hk => by
    obtain ⟨hz, hTI, ⟨a, b, c, hTO⟩, h1, h2, h3, hl1, hl2, hl3⟩ := hst
    exact ⟨hk (n + 5) (by simp) _ hz, hk (n + 3) (by simp) _ hTI, ⟨a, b, c, hk (n + 4) (by simp) _ hTO⟩, h1.at fun o e => hk n (by simp) o e, h2.at fun o e => hk (n + 1) (by simp) o e, h3.at fun o e => hk (n + 2) (by simp) o e,
      hl1.at fun o e => hk l1 (by simp) o e, hl2.at fun o e => hk l2 (by simp) o e, hl3.at fun o e => hk l3 (by simp) o e⟩
  item := fun i s Q E hi hst hQ => by
    obtain ⟨hz', hTI, ⟨a, b, c, hTO⟩, h1, h2, h3, hl1, hl2, hl3⟩ := hst
    refine zip3_next b1 b2 b3 hz' hTI hTO h1 h2 h3 hl1 hl2 hl3 (Array.getElem?_eq_getElem hi) (Array.getElem?_eq_getElem (by omega)) (Array.getElem?_eq_getElem (by omega)) fun h' a1 a2 a3 a4 a5 a6 a7 hk => ?_
    have hlt : n + 5 < s.heap.objs.size := Heap.lt_size hz'
    refine hQ s.heap.objs.size _ h' s.toks ⟨_, _, _, Array.getElem?_eq_getElem hi, Array.getElem?_eq_getElem (by omega), Array.getElem?_eq_getElem (by omega), rfl⟩ ⟨_, a6, rfl, _, rfl⟩
      ⟨a1, hk _ _ (by omega) (by omega) (by omega) (by omega) (by omega) hTI, ⟨_, _, _, a2⟩, a3, a4, a5, hl1.at fun o e => hk _ o (by omega) (by omega) (by omega) (by omega) (by omega) e, hl2.at fun o e => hk _ o (by omega) (by omega) (by omega) (by omega) (by omega) e,
        hl3.at fun o e => hk _ o (by omega) (by omega) (by omega) (by omega) (by omega) e, hlt⟩
      fun c o hc e => ?_
    simp only [List.mem_cons, List.not_mem_nil, or_false, not_or] at hc
    exact hk c o hc.1 hc.2.1 hc.2.2.1 hc.2.2.2.1 hc.2.2.2.2 e
  go := fun elts k pos i T s Q E hm hQ => by
    obtain ⟨hz', hTI, ⟨a, b, c, hTO⟩, h1, h2, h3, hl1, hl2, hl3, _⟩ := hm
    refine wpAny_letOwnedTupleGo_zip hz' fun h' hz'' hs' => hQ h' ⟨hz'', hs'.extBut _ _ (show n + 3 ≠ n + 5 by omega) hTI, ⟨a, b, c, hs'.extBut _ _ (show n + 4 ≠ n + 5 by omega) hTO⟩, h1.extBut hs'.extBut (show n ≠ n + 5 by omega), h2.extBut hs'.extBut (show n + 1 ≠ n + 5 by omega), h3.extBut hs'.extBut (show n + 2 ≠ n + 5 by omega),
      hl1.extBut hs'.extBut (show l1 ≠ n + 5 by omega), hl2.extBut hs'.extBut (show l2 ≠ n + 5 by omega), hl3.extBut hs'.extBut (show l3 ≠ n + 5 by omega)⟩ fun c o hc e => hs'.extBut _ _ (fun x => hc (by rw [x]; simp)) e
  apart := fun i T h hm hT => by
    obtain ⟨_, _, _, _, _, _, _, _, _, hlt⟩ := hm
    simp only [List.mem_cons, List.not_mem_nil, or_false] at hT
    have hlt' : @LT.lt Nat _ (n + 5) T := hlt
    rcases hT with e | e | e | e | e <;> (have e' : @Eq Nat T _ := e; omega)
  done := fun s Q E hst hQ => by
    obtain ⟨hz', hTI, _, h1, _, _, hl1, _, _⟩ := hst
    refine zip3_done hh b1 hz' hTI h1 hl1 (Array.getElem?_eq_none (Nat.le_refl _)) fun h' hk => hQ h' s.toks fun c o hc e => ?_
    simp only [List.mem_cons, List.not_mem_nil, or_false, not_or] at hc
    exact hk c o hc.1 hc.2.2.1 e
  self := fun i s Q E hst hQ => wpAny_pyIter_zip hst.1 hQ
end
section
variable {prog : Program} {w : World} {A : Around} {E : Value → Shared → Prop} {s : Shared} {env : Env} {h₀ : Heap} {target : Expr} {body : List Stmt} {Q : Flow → Shared → Prop}
/-- what is left of the loop's turns: each hands a fresh tuple of three -/
def Rest3 (prog : Program) (w : World) (A : Around) (E : Value → Shared → Prop) (h₀ : Heap) (env : Env) (target : Expr) (body : List Stmt) (Q : Flow → Shared → Prop) (s : Shared) (ws : List (Addr × String)) (keep : Led) : List (Value × Value × Value) → (Str → Option Value) → Led → Prop
  | [], m, news => ∀ h tk, Fr h₀ env.locals h m → News h₀ env.locals h news → Q .next { s with heap := h, toks := tk }
  | a :: r, m, news => ∀ T h tk, IsTup h T #[a.1, a.2.1, a.2.2] → Fr h₀ env.locals h m → AllObj ws (fun its => News h₀ env.locals h (its ++ news) →
      wpAny (model prog w) A (assign target env (.ref T)) (fun _ s₂ => wpAny (model prog w) A (execs body env) (UnrPostW h₀ env.locals { s with heap := h, toks := tk } its (fun m' n' => SubL keep n' ∧ Rest3 prog w A E h₀ env target body Q s ws keep r m' n') Q) E s₂) E { s with heap := h, toks := tk })
theorem Rest3.zero {ws : List (Addr × String)} {keep : Led} {m : Str → Option Value} {news : Led} (h : ∀ h tk, Fr h₀ env.locals h m → News h₀ env.locals h news → Q .next { s with heap := h, toks := tk }) :
    Rest3 prog w A E h₀ env target body Q s ws keep [] m news := h
theorem Rest3.succ {ws : List (Addr × String)} {keep : Led} {x y z : Value} {r : List (Value × Value × Value)} {m : Str → Option Value} {news : Led}
    (h : ∀ T h tk, IsTup h T #[x, y, z] → Fr h₀ env.locals h m → AllObj ws (fun its => News h₀ env.locals h (its ++ news) →
      wpAny (model prog w) A (assign target env (.ref T)) (fun _ s₂ => wpAny (model prog w) A (execs body env) (UnrPostW h₀ env.locals { s with heap := h, toks := tk } its (fun m' n' => SubL keep n' ∧ Rest3 prog w A E h₀ env target body Q s ws keep r m' n') Q) E s₂) E { s with heap := h, toks := tk })) :
    Rest3 prog w A E h₀ env target body Q s ws keep ((x, y, z) :: r) m news := h
theorem core3 {I : Addr} {fp wr : List Addr} {n : Nat} {P Md : Nat → Value → Heap → Prop} {St : Nat → Heap → Prop} {ws : List (Addr × String)} {keep : Led} {xs : List (Value × Value × Value)} {m₀ : Str → Option Value} {news : Led} {hp : Heap} {tk0 : Nat}
    (W : KTurns prog w A target I fp wr n P Md St) (hn : n = xs.length) (hP : ∀ i v h, P i v h → ∃ a T, xs[i]? = some a ∧ v = .ref T ∧ IsTup h T #[a.1, a.2.1, a.2.2])
    (hobj : ∀ i h, St i h → ∃ its, Objs ws its ∧ ∀ p ∈ its, h.get? p.1 = some p.2)
    (hws : ∀ b ∈ ws.map (·.1), b ∈ fp ∧ h₀.get? b = none) (hwr : ∀ b ∈ wr, b ∈ ws.map (·.1))
    (hfp : ∀ b ∈ fp, b ∈ ws.map (·.1) ∨ ∃ o, (b, o) ∈ keep) (hL : env.locals ∉ fp) (hnw : ∀ p ∈ news, p.1 ∉ wr) (hst : St 0 hp)
    (F : Fr h₀ env.locals hp m₀) (N : News h₀ env.locals hp news) (hk : SubL keep news)
    (rest : Rest3 prog w A E h₀ env target body Q s ws keep xs m₀ news) : TurnsAt prog w A h₀ env target body Q E (.ref I) { s with heap := hp, toks := tk0 } := by
  refine ⟨I, fp, wr, n, P, Md, St, m₀, news, fun i m₁ news₁ => SubL keep news₁ ∧ Rest3 prog w A E h₀ env target body Q s ws keep (xs.drop i) m₁ news₁, rfl, W, hL, fun b hb => (hws b (hwr b hb)).2, hnw, hst, F, N, ⟨hk, by rw [List.drop_zero]; exact rest⟩, ?_, ?_⟩
  · intro i v m₁ news₁ h₁ tk₁ own hin hPi hJ _ hown hget hall hst₁ F₁ N₁
    obtain ⟨hk₁, hJ⟩ := hJ
    obtain ⟨a, T, ha, rfl, hT⟩ := hP i v h₁ hPi
    obtain ⟨its, hits, hval⟩ := hobj (i + 1) h₁ hst₁
    have hmap := hits.map
    have hlt : i < xs.length := hn ▸ hin
    have hdrop : xs.drop i = a :: xs.drop (i + 1) := by
      rw [List.drop_eq_getElem_cons hlt]
      congr 1
      exact Option.some.inj ((List.getElem?_eq_getElem hlt).symm.trans ha)
    rw [hdrop] at hJ
    have N₂ : News h₀ env.locals h₁ (its ++ news₁) := fun p hp => by
      rcases List.mem_append.mp hp with hp | hp
      · have h1 : p.1 ∈ ws.map (·.1) := by rw [← hmap]; exact List.mem_map.mpr ⟨p, hp, rfl⟩
        exact N₁ _ (List.mem_append_left _ (hall p.1 (hws _ h1).1 (hws _ h1).2 p.2 (hval p hp)))
      · exact N₁ _ (List.mem_append_right _ hp)
    have fin : ∀ s₃, UnrEndW h₀ env.locals { s with heap := h₁, toks := tk₁ } its (fun m' n' => SubL keep n' ∧ Rest3 prog w A E h₀ env target body Q s ws keep (xs.drop (i + 1)) m' n') s₃ →
        LoopStepU h₀ env.locals wr own (fun m₁ news₁ => SubL keep news₁ ∧ Rest3 prog w A E h₀ env target body Q s ws keep (xs.drop (i + 1)) m₁ news₁) { s with heap := h₁, toks := tk₁ } .next s₃ := by
      rintro s₃ ⟨h', tk, m', news', e, F', N', ho, hk', r⟩
      refine ⟨rfl, h', tk, m', news', e, F', ?_, ?_, hk', r⟩
      · rintro ⟨pa, po⟩ hp
        rcases List.mem_append.mp hp with hp | hp
        · have h2 : h₁.get? pa = some po := hget _ hp
          rcases hfp pa (hown _ hp) with h3 | ⟨o, h3⟩
          · rw [← hmap] at h3
            obtain ⟨q, hq, hqe⟩ := List.mem_map.mp h3
            have h5 := hval _ hq
            rw [hqe, h2] at h5
            have : q = (pa, po) := Prod.ext hqe (Option.some.inj h5).symm
            exact N' _ (List.mem_append_left _ (this ▸ hq))
          · have h4 : h₁.get? pa = some o := (N₁ _ (List.mem_append_right _ (hk₁.mem _ h3))).1
            have h6 : o = po := Option.some.inj (h4.symm.trans h2)
            exact N' _ (List.mem_append_right _ (hk'.mem _ (h6 ▸ h3)))
        · exact N' _ (List.mem_append_right _ hp)
      · intro p hp hI
        have h4 := hwr _ hI
        rw [← hmap] at h4
        obtain ⟨q, hq, hqe⟩ := List.mem_map.mp h4
        exact ho p hp q hq hqe.symm
    refine wpAny_mono ((hJ T h₁ tk₁ hT F₁).at hits N₂) (fun _ s₂ h₂ => wpAny_mono h₂ (fun f s₃ p => ?_) fun _ _ e => e) fun _ _ e => e
    cases f with
    | ret v => exact .ret p
    | brk => exact .brk p
    | next => exact .next (fin _ p)
    | cont => exact .cont (fin _ p)
  · intro h' tk m' news' F' N' _ hJ
    have hJ' := hJ.2
    rw [List.drop_eq_nil_of_le (Nat.le_of_eq hn.symm)] at hJ'
    exact hJ' h' tk F' N'
end
end
section
section
variable {prog : Program} {w : World} {A : Around} {E : Value → Shared → Prop} {s : Shared} {env : Env} {h₀ : Heap} {body : List Stmt} {Q : Flow → Shared → Prop}
theorem at_two {a b x : Value} {i : Nat} (h : ([a, b].toArray : Array Value)[i]? = some x) : (i = 0 ∧ x = a) ∨ (i = 1 ∧ x = b) := by
  match i, h with
  | 0, h => exact .inl ⟨rfl, by simpa using h.symm⟩
  | 1, h => exact .inr ⟨rfl, by simpa using h.symm⟩
  | i + 2, h => simp at h
theorem zip3_turns {elts : List Expr} {k : Nat} {pos : Pos} {l1 l2 l3 : Addr} {lo1 lo2 lo3 : Obj} {x0 x1 y0 y1 w0 w1 : Value} {n1 n2 n3 : Nat} {m₀ : Str → Option Value} {news : Led}
    (hh : A.handled = none) (F : Fr h₀ env.locals s.heap m₀) (N : News h₀ env.locals s.heap news)
    (hm1 : (l1, lo1) ∈ news) (hc1 : lo1.cls = .type "list") (hd1 : lo1.data = .seq [x0, x1].toArray n1)
    (hm2 : (l2, lo2) ∈ news) (hc2 : lo2.cls = .type "list") (hd2 : lo2.data = .seq [y0, y1].toArray n2)
    (hm3 : (l3, lo3) ∈ news) (hc3 : lo3.cls = .type "tuple") (hd3 : lo3.data = .seq [w0, w1].toArray n3)
    (rest₀ : ∀ n : Addr, (∀ p ∈ news, p.1 < n) → Rest3 prog w A E h₀ env (.Tuple elts k pos) body Q s [(n + 5, "zip"), (n + 3, "tuple"), (n + 4, "tuple"), (n, "list_iterator"), (n + 1, "list_iterator"), (n + 2, "tuple_iterator")] [(l1, lo1), (l2, lo2), (l3, lo3)] [(x0, y0, w0), (x1, y1, w1)] m₀ news) :
    wpAny (model prog w) A (call (.type "zip") [.ref l1, .ref l2, .ref l3]) (fun xv s₁ => wpAny (model prog w) A (pyIter xv) (fun it s₂ => TurnsAt prog w A h₀ env (.Tuple elts k pos) body Q E it s₂) E s₁) E s := by
  have hax1 := N _ hm1
  have hax2 := N _ hm2
  have hax3 := N _ hm3
  have hl1 : s.heap.IsList l1 [x0, x1].toArray := ⟨lo1, hax1.1, hc1, n1, hd1⟩
  have hl2 : s.heap.IsList l2 [y0, y1].toArray := ⟨lo2, hax2.1, hc2, n2, hd2⟩
  have hl3 : s.heap.IsTuple l3 [w0, w1].toArray := ⟨lo3, hax3.1, hc3, n3, hd3⟩
  generalize hn : s.heap.objs.size = n
  have b1 : @LT.lt Nat _ l1 n := hn ▸ Heap.lt_size hax1.1
  have b2 : @LT.lt Nat _ l2 n := hn ▸ Heap.lt_size hax2.1
  have b3 : @LT.lt Nat _ l3 n := hn ▸ Heap.lt_size hax3.1
  have bL : @LT.lt Nat _ env.locals n := hn ▸ F.ns.lt
  have bN : ∀ p ∈ news, @LT.lt Nat _ p.1 n := fun p hp => hn ▸ Heap.lt_size (N p hp).1
  have new : ∀ b, n ≤ b → h₀.get? b = none := fun b hb => ktu_new F (hn ▸ hb)
  refine call_zip3 hl1 hl2 hl3 n hn.symm fun h' hz hTI hTO hi1 hi2 hi3 hsz hk => ?_
  refine wpAny_pyIter_zip hz ?_
  refine core3 (tk0 := s.toks) (keep := [(l1, lo1), (l2, lo2), (l3, lo3)]) (KTurns.ofWalksU (zip3_walks hh n l1 l2 l3 b1 b2 b3 [x0, x1].toArray [y0, y1].toArray [w0, w1].toArray rfl rfl)) rfl ?_ ?_ ?_ ?_ ?_ ?_ ?_ ?_ (F.keeps hk) (N.grown hk) (And.intro hm1 (And.intro hm2 (And.intro hm3 trivial))) (rest₀ n bN)
  · rintro i v h ⟨T, vals, rfl, ⟨x, y, z, hx, hy, hz', rfl⟩, hT⟩
    rcases at_two hx with ⟨rfl, rfl⟩ | ⟨rfl, rfl⟩
    · have e1 : y = y0 := by simpa using hy.symm
      have e2 : z = w0 := by simpa using hz'.symm
      subst e1; subst e2
      exact ⟨_, T, rfl, rfl, hT⟩
    · have e1 : y = y1 := by simpa using hy.symm
      have e2 : z = w1 := by simpa using hz'.symm
      subst e1; subst e2
      exact ⟨_, T, rfl, rfl, hT⟩
  · rintro i h ⟨hz, hTI, ⟨a, b, c, hTO⟩, ⟨o1, ho1, hc1, _⟩, ⟨o2, ho2, hc2, _⟩, ⟨o3, ho3, hc3, _⟩, _⟩
    refine ⟨[(n + 5, { cls := .type "zip", dict := none, data := .fields #[.none, .bool false, .bool false, .ref (n+3), .ref (n+4)], slots := #[] }), (n + 3, { cls := .type "tuple", data := .seq #[.ref n, .ref (n+1), .ref (n+2)] }), (n + 4, { cls := .type "tuple", data := .seq #[a, b, c] }), (n, o1), (n + 1, o2), (n + 2, o3)], ⟨⟨rfl, rfl⟩, ⟨rfl, rfl⟩, ⟨rfl, rfl⟩, ⟨rfl, hc1⟩, ⟨rfl, hc2⟩, ⟨rfl, hc3⟩, trivial⟩, fun p hp => ?_⟩
    rcases List.mem_cons.mp hp with rfl | hp
    · exact hz
    rcases List.mem_cons.mp hp with rfl | hp
    · exact hTI
    rcases List.mem_cons.mp hp with rfl | hp
    · exact hTO
    rcases List.mem_cons.mp hp with rfl | hp
    · exact ho1
    rcases List.mem_cons.mp hp with rfl | hp
    · exact ho2
    rw [List.mem_singleton.mp hp]
    exact ho3
  · intro b hb
    have hb' : b = n + 5 ∨ b = n + 3 ∨ b = n + 4 ∨ b = n ∨ b = n + 1 ∨ b = n + 2 := by simpa using hb
    rcases hb' with rfl | rfl | rfl | rfl | rfl | rfl
    · exact ⟨by simp, new _ (Nat.le_add_right _ _)⟩
    · exact ⟨by simp, new _ (Nat.le_add_right _ _)⟩
    · exact ⟨by simp, new _ (Nat.le_add_right _ _)⟩
    · exact ⟨by simp, new _ (Nat.le_refl _)⟩
    · exact ⟨by simp, new _ (Nat.le_add_right _ _)⟩
    · exact ⟨by simp, new _ (Nat.le_add_right _ _)⟩
  · intro b hb
    have hb' : b = n + 5 ∨ b = n + 4 ∨ b = n ∨ b = n + 1 ∨ b = n + 2 := by simpa using hb
    rcases hb' with rfl | rfl | rfl | rfl | rfl <;> simp
  · intro b hb
    have hb' : b = n + 5 ∨ b = n + 3 ∨ b = n + 4 ∨ b = n ∨ b = n + 1 ∨ b = n + 2 ∨ b = l1 ∨ b = l2 ∨ b = l3 := by simpa using hb
    rcases hb' with rfl | rfl | rfl | rfl | rfl | rfl | rfl | rfl | rfl
    · exact .inl (by simp)
    · exact .inl (by simp)
    · exact .inl (by simp)
    · exact .inl (by simp)
    · exact .inl (by simp)
    · exact .inl (by simp)
    · exact .inr ⟨lo1, by simp⟩
    · exact .inr ⟨lo2, by simp⟩
    · exact .inr ⟨lo3, by simp⟩
  · intro hI'
    have hb' : env.locals = n + 5 ∨ env.locals = n + 3 ∨ env.locals = n + 4 ∨ env.locals = n ∨ env.locals = n + 1 ∨ env.locals = n + 2 ∨ env.locals = l1 ∨ env.locals = l2 ∨ env.locals = l3 := by simpa using hI'
    have q1 := hax1.2.1
    have q2 := hax2.2.1
    have q3 := hax3.2.1
    rcases hb' with e | e | e | e | e | e | e | e | e
    · exact ktu_ne 5 bL e
    · exact ktu_ne 3 bL e
    · exact ktu_ne 4 bL e
    · exact Nat.ne_of_lt bL e
    · exact ktu_ne 1 bL e
    · exact ktu_ne 2 bL e
    · exact q1 e.symm
    · exact q2 e.symm
    · exact q3 e.symm
  · intro p hp hI'
    have hb' : p.1 = n + 5 ∨ p.1 = n + 4 ∨ p.1 = n ∨ p.1 = n + 1 ∨ p.1 = n + 2 := by simpa using hI'
    have hlp := bN p hp
    rcases hb' with e | e | e | e | e
    · exact ktu_ne 5 hlp e
    · exact ktu_ne 4 hlp e
    · exact Nat.ne_of_lt hlp e
    · exact ktu_ne 1 hlp e
    · exact ktu_ne 2 hlp e
  · exact ⟨hz, hTI, ⟨_, _, _, hTO⟩, hi1, hi2, hi3, hl1.at fun o e => hk l1 o e, hl2.at fun o e => hk l2 o e, hl3.at fun o e => hk l3 o e⟩
end
end
section
open PySem.NumText
theorem cs_len (x : Str) : x.cps.toList.length = x.length := Array.length_toList
theorem cs_app (x y : Str) : (x ++ y).cps.toList = x.cps.toList ++ y.cps.toList := by rw [Str.cps_append, Array.toList_append]
theorem str_of_cs {x y : Str} (h : x.cps.toList = y.cps.toList) : x = y := by
  obtain ⟨a⟩ := x; obtain ⟨b⟩ := y
  exact congrArg Str.mk (Array.toList_inj.mp h)
theorem cs_mul0 (n : Int) : (Txt.mul (Str.ofString "0") n).cps.toList = List.replicate n.toNat 48 := by
  rw [show Str.ofString "0" = ⟨#[48]⟩ from by decide +kernel]; exact mul_one_list 48 n
theorem cs_mulsp (n : Int) : (Txt.mul (Str.ofString " ") n).cps.toList = List.replicate n.toNat 32 := by
  rw [show Str.ofString " " = ⟨#[32]⟩ from by decide +kernel]; exact mul_one_list 32 n
theorem cs_to {x : Str} {j : Int} (h0 : 0 ≤ j) (h : j ≤ x.length) : (Txt.slice x none (some j)).cps.toList = x.cps.toList.take j.toNat := by
  have := eq_of_beq (slice_closes_toL (x := x) h0 h)
  rw [this]
  simp
theorem cs_from {x : Str} {j : Int} (h0 : 0 ≤ j) (h : j ≤ x.length) : (Txt.slice x (some j) none).cps.toList = x.cps.toList.drop j.toNat := by
  rw [slice_from_eq h0 h rfl]
  have := cs_len x
  show (x.cps.toList.drop j.toNat).take ((x.length : Int) - j).toNat = _
  rw [List.take_of_length_le]
  rw [List.length_drop]; omega
theorem cs_dot : (Str.ofString ".").cps.toList = [46] := by decide +kernel
theorem cs_nil : (Str.ofString "").cps.toList = [] := by decide +kernel
theorem cs_zero : (Str.ofString "0").cps.toList = [48] := by decide +kernel
theorem cs_zdot : (Str.ofString "0.").cps.toList = [48, 46] := by decide +kernel
theorem cs_minus : (Str.ofString "-").cps.toList = [45] := by decide +kernel
theorem cs_plus : (Str.ofString "+").cps.toList = [43] := by decide +kernel
theorem is_nil {x : Str} : (x == Str.ofString "") = true ↔ x.cps.toList = [] := by
  rw [beq_iff_eq]
  constructor
  · intro h; rw [h]; exact cs_nil
  · intro h; exact str_of_cs (h.trans cs_nil.symm)
/-- figures -/
theorem snoc_ind {P : List Nat → Prop} (h0 : P []) (h1 : ∀ l c, P l → P (l ++ [c])) (l : List Nat) : P l := by
  have : ∀ r : List Nat, P r.reverse := by
    intro r
    induction r with
    | nil => exact h0
    | cons c r ih => rw [List.reverse_cons]; exact h1 _ _ ih
  have := this l.reverse
  rwa [List.reverse_reverse] at this
theorem dv_app (a b : List Nat) : digitsVal (a ++ b) = digitsVal a * 10 ^ b.length + digitsVal b := by
  refine snoc_ind (P := fun b => digitsVal (a ++ b) = digitsVal a * 10 ^ b.length + digitsVal b) (by simp [digitsVal]) (fun l c ih => ?_) b
  · rw [← List.append_assoc, digitsVal_snoc, ih, digitsVal_snoc, List.length_append, List.length_singleton, Nat.pow_succ, Nat.add_mul, Nat.mul_assoc]
    omega
theorem dv_zeros (k : Nat) : digitsVal (List.replicate k 48) = 0 := by
  induction k with
  | zero => rfl
  | succ n ih => rw [List.replicate_succ, digitsVal_zero, ih]
theorem dv_pad (k : Nat) (l : List Nat) : digitsVal (List.replicate k 48 ++ l) = digitsVal l := by rw [dv_app, dv_zeros]; simp
theorem rstep_figs (l : List Nat) : AllDigits l → ∀ (n b : Int) (f : Bool), l.foldl rstep (n, b, f) = (n * 10 ^ l.length + (digitsVal l : Int), b + (if f = true then (l.length : Int) else 0), f) := by
  refine snoc_ind (P := fun l => AllDigits l → ∀ (n b : Int) (f : Bool), l.foldl rstep (n, b, f) = (n * 10 ^ l.length + (digitsVal l : Int), b + (if f = true then (l.length : Int) else 0), f)) (by intro h n b f; simp [digitsVal]) (fun l c ih => ?_) l
  · intro h n b f
    have hc := h c (by simp)
    rw [List.foldl_append, ih (fun d hd => h d (by simp [hd])) n b f]
    show rstep _ c = _
    unfold rstep
    rw [if_neg (by omega)]
    dsimp only
    rw [digitsVal_snoc, List.length_append, List.length_singleton, Int.pow_succ]
    refine Prod.ext ?_ (Prod.ext ?_ rfl)
    · dsimp only
      rw [← Int.mul_assoc]
      generalize n * 10 ^ l.length = q
      omega
    · dsimp only
      cases f
      · simp
      · simp; omega
theorem rstep_body {W Z : List Nat} (hW : AllDigits W) (hZ : AllDigits Z) : (W ++ 46 :: Z).foldl rstep (0, 0, false) = ((digitsVal (W ++ Z) : Int), (Z.length : Int), true) := by
  rw [List.foldl_append, rstep_figs W hW, List.foldl_cons]
  show Z.foldl rstep (_, _, true) = _
  rw [rstep_figs Z hZ, dv_app]
  refine Prod.ext ?_ (Prod.ext ?_ rfl)
  · dsimp only
    rw [Int.natCast_add, Int.natCast_mul, pow10_cast]
    simp
  · dsimp only
    simp
theorem dig_num {l : List Nat} (h : AllDigits l) : ∀ c ∈ l, isNum c = true := fun c hc => by
  have := h c hc
  unfold isNum
  simp only [Bool.or_eq_true, Bool.and_eq_true, beq_iff_eq, decide_eq_true_eq]
  omega
theorem dig_rep (k : Nat) : AllDigits (List.replicate k 48) := fun c hc => by rw [(List.mem_replicate.mp hc).2]; omega
theorem dig_app {a b : List Nat} (ha : AllDigits a) (hb : AllDigits b) : AllDigits (a ++ b) := fun c hc => by
  rcases List.mem_append.mp hc with h | h
  · exact ha c h
  · exact hb c h
theorem dig_take {a : List Nat} (k : Nat) (ha : AllDigits a) : AllDigits (a.take k) := fun c hc => ha c (List.mem_of_mem_take hc)
theorem dig_drop {a : List Nat} (k : Nat) (ha : AllDigits a) : AllDigits (a.drop k) := fun c hc => ha c (List.mem_of_mem_drop hc)
/-- the figures of a number -/
theorem cs_strOf {n : Int} (h : 0 ≤ n) : (strOf n).cps.toList = (Nat.toDigits 10 n.toNat).map Char.toNat := by
  obtain ⟨m, rfl⟩ := Int.eq_ofNat_of_zero_le h
  exact KIN.signs_num m
theorem dig_strOf {n : Int} (h : 0 ≤ n) : AllDigits (strOf n).cps.toList := by
  intro c hc
  rw [cs_strOf h] at hc
  obtain ⟨ch, hch, e⟩ := List.mem_map.mp hc
  have r := digit_range (Nat.isDigit_of_mem_toDigits (by decide) (by decide) hch)
  rw [← e]
  exact r
theorem dv_strOf {n : Int} (h : 0 ≤ n) : (digitsVal (strOf n).cps.toList : Int) = n := by
  rw [cs_strOf h, KIN.val_back]; omega
theorem len_strOf {n : Int} (h : 0 ≤ n) {k : Nat} (hk : 0 < k) : (strOf n).length ≤ k ↔ n < 10 ^ k := by
  rw [← cs_len, cs_strOf h, List.length_map, Nat.length_toDigits_le_iff (by decide) hk, ← pow10_cast]
  omega
theorem pos_strOf {n : Int} (h : 0 ≤ n) : 1 ≤ (strOf n).length := by
  rw [← cs_len, cs_strOf h, List.length_map]; exact toDigits_len_ge 10 _
/-- the decade of a positive number -/
theorem size_strOf {n : Int} (h : 0 < n) {k : Nat} (hk : k = (strOf n).length) : 10 ^ (k - 1) ≤ n ∧ n < 10 ^ k ∧ 1 ≤ k := by
  have h1 := pos_strOf (n := n) (by omega)
  refine ⟨?_, ?_, by omega⟩
  · by_cases e : k = 1
    · subst e; simp; omega
    · have := (len_strOf (n := n) (by omega) (k := k - 1) (by omega))
      omega
  · exact (len_strOf (n := n) (by omega) (by omega)).mp (by omega)
theorem size_uniq {n : Int} (h : 0 < n) {k : Nat} (h1 : 10 ^ (k - 1) ≤ n) (h2 : n < 10 ^ k) (hk : 1 ≤ k) : (strOf n).length = k := by
  have a := (len_strOf (n := n) (by omega) (k := k) (by omega)).mpr h2
  by_cases e : k = 1
  · have := pos_strOf (n := n) (by omega); omega
  · have := (len_strOf (n := n) (by omega) (k := k - 1) (by omega))
    omega
theorem dv_cut {l : List Nat} (h : AllDigits l) (hn : 1 ≤ l.length) : digitsVal (l.take (l.length - 1)) = digitsVal l / 10 := by
  have e : l = l.take (l.length - 1) ++ [l.getLast (by intro e; rw [e] at hn; simp at hn)] := by
    rw [← List.dropLast_eq_take, List.dropLast_concat_getLast]
  generalize hc : l.getLast (by intro e; rw [e] at hn; simp at hn) = c at e
  have hm : 48 ≤ c ∧ c ≤ 57 := h c (by rw [e]; simp)
  generalize l.take (l.length - 1) = t at e ⊢
  rw [e, digitsVal_snoc]
  omega
end
section
open PySem.NumText
/-- a text: blanks, a mark, a body of figures and the point, a tail, blanks -/
structure Shp (x : Str) (neg : Bool) (body tail : List Nat) : Prop where
  eq : ∃ a b, x.cps.toList = List.replicate a 32 ++ (((if neg = true then [45] else []) ++ body ++ tail) ++ List.replicate b 32)
  ne : body ≠ []
  num : ∀ c ∈ body, isNum c = true
  vis : ∀ c ∈ tail, 33 ≤ c ∧ c < 127
  stop : ∀ c, tail.head? = some c → isNum c = false
theorem no_space : ∀ c, c < 127 → 33 ≤ c → Unicode.isSpace c = false := by decide +kernel
theorem is_space : Unicode.isSpace 32 = true := by decide +kernel
theorem tw_rep (p : Nat → Bool) (hp : p 32 = true) (a : Nat) (l : List Nat) (hl : ∀ c, l.head? = some c → p c = false) : ((List.replicate a 32 ++ l).takeWhile p).length = a := by
  induction a with
  | zero =>
    cases l with
    | nil => rfl
    | cons c r => simp [List.takeWhile_cons, hl c rfl]
  | succ n ih => rw [List.replicate_succ, List.cons_append, List.takeWhile_cons, hp, if_pos rfl, List.length_cons, ih]
theorem strip_mid {x : Str} {a b : Nat} {mid : List Nat} (e : x.cps.toList = List.replicate a 32 ++ (mid ++ List.replicate b 32)) (hne : mid ≠ []) (hv : ∀ c ∈ mid, 33 ≤ c ∧ c < 127) : (Txt.strip x).cps.toList = mid := by
  have hl := cs_len x
  have hlen : x.length = a + (mid.length + b) := by rw [← hl, e]; simp
  have lo : stripLo Unicode.isSpace true x = a := by
    simp only [stripLo, if_true]
    rw [e]
    refine tw_rep _ is_space _ _ (fun c hc => ?_)
    cases hm : mid with
    | nil => exact absurd hm hne
    | cons d r =>
      rw [hm] at hc
      have hd := hv d (by rw [hm]; exact List.mem_cons_self ..)
      have : d = c := by simpa using hc
      subst this
      exact no_space d hd.2 hd.1
  have hi : stripHi Unicode.isSpace true x a = a + mid.length := by
    simp only [stripHi, if_true]
    rw [e, List.drop_left' (by simp), List.reverse_append, List.reverse_replicate, tw_rep _ is_space, hlen]
    · omega
    · intro c hc
      have hm : c ∈ mid := by
        have : c ∈ mid.reverse := List.mem_of_mem_head? hc
        exact List.mem_reverse.mp this
      have hd := hv c hm
      exact no_space c hd.2 hd.1
  unfold Txt.strip
  rw [PyProof.Rows.stripBy_eq, lo, hi, StrLaws.strSub_toList, e, List.drop_left' (by simp), List.take_left' (by omega)]
theorem Shp.mid_vis {x : Str} {neg : Bool} {body tail : List Nat} (S : Shp x neg body tail) : ∀ c ∈ ((if neg = true then [45] else []) ++ body ++ tail), 33 ≤ c ∧ c < 127 := by
  intro c hc
  rcases List.mem_append.mp hc with hc | hc
  · rcases List.mem_append.mp hc with hc | hc
    · split at hc
      · rw [List.mem_singleton.mp hc]; omega
      · cases hc
    · have := S.num c hc
      unfold isNum at this
      simp only [Bool.or_eq_true, Bool.and_eq_true, beq_iff_eq, decide_eq_true_eq] at this
      omega
  · exact S.vis c hc
theorem Shp.strip {x : Str} {neg : Bool} {body tail : List Nat} (S : Shp x neg body tail) : (Txt.strip x).cps.toList = (if neg = true then [45] else []) ++ body ++ tail := by
  obtain ⟨a, b, e⟩ := S.eq
  refine strip_mid e ?_ S.mid_vis
  intro h
  have := congrArg List.length h
  have h2 : body.length ≠ 0 := fun h => S.ne (List.length_eq_zero_iff.mp h)
  simp only [List.length_append, List.length_nil] at this
  omega
theorem Shp.read {x : Str} {neg : Bool} {body tail : List Nat} (S : Shp x neg body tail) : RShape x (if neg = true then 1 else 0) body tail := by
  have e := S.strip
  refine ⟨?_, ?_, S.ne, S.num, S.stop⟩
  · rw [e]; cases neg <;> simp
  · rw [e]; cases neg <;> simp <;> omega
section
open PySem.Builtin PySem.Builtin.Str
theorem turn_minus {x : Str} {a : Nat} {rest : List Nat} (e : x.cps.toList = List.replicate a 32 ++ 45 :: rest) : (replace1 x (Str.ofString "-") (Str.ofString " ")).cps.toList = List.replicate (a + 1) 32 ++ rest := by
  have hl := cs_len x
  have hlen : x.length = a + 1 + rest.length := by rw [← hl, e]; simp; omega
  have hat : ∀ i, StrLaws.At x (Str.ofString "-") x.length i ↔ i < x.length ∧ x.cps.toList[i]? = some 45 := by
    intro i
    unfold StrLaws.At
    rw [StrLaws.subAt_eq, lenE, cs_minus]
    constructor
    · rintro ⟨h1, h2⟩
      have h2 := eq_of_beq h2
      refine ⟨by omega, ?_⟩
      have := congrArg (fun l => l[0]?) h2
      simpa [List.getElem?_take, List.getElem?_drop] using this
    · rintro ⟨h1, h2⟩
      refine ⟨by omega, beq_iff_eq.mpr ?_⟩
      have h3 : i < x.cps.toList.length := by omega
      rw [List.getElem?_eq_getElem h3] at h2
      have h2 := Option.some.inj h2
      rw [List.drop_eq_getElem_cons h3, h2]; rfl
  have hA : StrLaws.At x (Str.ofString "-") x.length a := (hat a).mpr ⟨by omega, by rw [e]; simp⟩
  have hB : ∀ k, k < a → ¬ StrLaws.At x (Str.ofString "-") x.length k := by
    intro k hk h
    have := ((hat k).mp h).2
    rw [e, List.getElem?_append_left (by simpa using hk)] at this
    simp [hk] at this
  have hocc : occurrences x (Str.ofString "-") 0 x.length 1 = [a] := by
    rcases StrLaws.occ_head x (Str.ofString "-") 1 (Nat.le_refl _) with ⟨_, h⟩ | ⟨i, r, h1, h2, h3⟩
    · exact absurd hA (h a)
    · have hr : r = [] := by
        have := StrLaws.occ_length_le x (Str.ofString "-") 0 x.length 1
        rw [h1] at this
        simp at this
        exact this
      have hia : i = a := by
        rcases Nat.lt_trichotomy i a with h | h | h
        · exact absurd h2 (hB i h)
        · exact h
        · exact absurd hA (h3 a h)
      rw [h1, hr, hia]
  unfold replace1
  rw [hocc, lenE, lenG]
  simp only [List.isEmpty_cons, Bool.false_or]
  rw [if_neg (by decide)]
  unfold partsBetween
  simp only [List.map_cons, List.map_nil, List.cons_append, List.nil_append, List.zip_cons_cons, List.zip_nil_left]
  rw [StrLaws.glued_eq_join]
  show (strSub x 0 a ++ Str.ofString " " ++ strSub x (a + 1) x.length).cps.toList = _
  rw [cs_app, cs_app, StrLaws.strSub_toList, StrLaws.strSub_toList, e, show (Str.ofString " ").cps.toList = [32] from by decide +kernel, List.drop_zero, List.take_left' (by simp), hlen]
  rw [show List.replicate a 32 ++ 45 :: rest = (List.replicate a 32 ++ [45]) ++ rest by simp, List.drop_left' (by simp), List.take_of_length_le (by omega), List.replicate_succ']
end
theorem Shp.turn {x : Str} {neg : Bool} {body tail : List Nat} (S : Shp x neg body tail) : (Txt.strip (turned x)).cps.toList = body ++ tail := by
  have es := S.strip
  have hn : ∀ c ∈ body ++ tail, 33 ≤ c ∧ c < 127 := fun c hc => S.mid_vis c (by rw [List.append_assoc]; exact List.mem_append_right _ hc)
  cases neg with
  | false =>
    simp only [Bool.false_eq_true, if_false, List.nil_append] at es
    unfold turned
    rw [if_neg]
    · exact es
    · intro h
      have h := eq_of_beq h
      rw [item_eq (by decide)] at h
      · have h := congrArg (fun z : Str => z.cps.toList) h
        simp only [cs_minus, es] at h
        cases hb : body with
        | nil => exact S.ne hb
        | cons c r =>
          rw [hb] at h
          simp at h
          have := S.num c (by rw [hb]; exact List.mem_cons_self ..)
          rw [h] at this
          exact absurd this (by decide)
      · have h2 : body.length ≠ 0 := fun h => S.ne (List.length_eq_zero_iff.mp h)
        rw [← cs_len, es, List.length_append]
        omega
  | true =>
    simp only [if_true, List.singleton_append, List.cons_append] at es
    unfold turned
    rw [if_pos]
    · obtain ⟨a, b, e⟩ := S.eq
      simp only [if_true, List.singleton_append, List.cons_append] at e
      refine strip_mid (a := a + 1) (b := b) (turn_minus e) ?_ hn
      intro h
      exact S.ne (List.append_eq_nil_iff.mp h).1
    · rw [item_eq (by decide)]
      · rw [es]
        show ((⟨#[45]⟩ : Str) == Str.ofString "-") = true
        decide +kernel
      · rw [← cs_len, es, List.length_cons]
        omega
/-- the field's closed form -/
theorem point_cs {x y z : Str} {n : Int} (h : (x.length : Int) + y.length + z.length + 2 ≤ n) : (point_field x y z n).cps.toList = List.replicate (n - (x.length + (if y.cps.toList = [] then 1 else y.length) + 1 + z.length)).toNat 32 ++ (x.cps.toList ++ (if y.cps.toList = [] then [48] else y.cps.toList) ++ 46 :: z.cps.toList) := by
  unfold point_field
  by_cases hy : y.cps.toList = []
  · have hy' := is_nil.mpr hy
    have hy2 : y.length = 0 := by rw [← cs_len, hy]; rfl
    rw [if_pos hy', if_pos hy, if_pos hy]
    split
    · unfold field
      simp only [Str.length_append, lenB, lenC]
      rw [if_neg (by omega), cs_app, cs_mulsp, cs_app, cs_app, cs_app, cs_dot, cs_zero]
      simp
    · rw [if_pos (by rw [lenA]; omega)]
      unfold field
      simp only [Str.length_append, lenA]
      rw [if_neg (by omega), cs_app, cs_mulsp, cs_app, cs_app, cs_zdot]
      simp
      omega
  · have hy' : ¬ (y == Str.ofString "") = true := fun h => hy (is_nil.mp h)
    rw [if_neg hy', if_neg hy, if_neg hy]
    unfold field
    simp only [Str.length_append, lenB]
    rw [if_neg (by omega), cs_app, cs_mulsp, cs_app, cs_app, cs_app, cs_dot]
    simp
end
section
open PySem.NumText
/-- 10 to the power x, in units of 10 to the power -300 -/
def pw (x : Int) : Int := 10 ^ (x + 300).toNat
theorem pw_pos (x : Int) : 0 < pw x := pow10_pos _
theorem pw_add {a k : Int} (ha : -300 ≤ a) (hk : 0 ≤ k) : pw (a + k) = pw a * 10 ^ k.toNat := by
  unfold pw
  rw [← Int.pow_add, show (a + k + 300).toNat = (a + 300).toNat + k.toNat by omega]
theorem pw_sub {a b : Int} (hb : -300 ≤ b) (h : b ≤ a) : pw a = pw b * 10 ^ (a - b).toNat := by
  rw [← pw_add hb (by omega)]; congr 1; omega
theorem pw_le {a b : Int} (h : a ≤ b) : pw a ≤ pw b := pow10_le (by omega)
theorem less_pw {v e v2 e2 : Int} (he : -300 ≤ e) (he2 : -300 ≤ e2) : lessD v e v2 e2 * pw (lessL e e2) = v * pw e - v2 * pw e2 := by
  have hl : lessL e e2 ≤ e ∧ lessL e e2 ≤ e2 ∧ -300 ≤ lessL e e2 := by unfold lessL; split <;> omega
  unfold lessD
  rw [Int.sub_mul, pw_sub hl.2.2 hl.1, pw_sub hl.2.2 hl.2.1]
  congr 1 <;> rw [Int.mul_assoc, Int.mul_comm (10 ^ _)]
theorem less_le {v e v2 e2 : Int} (he : -300 ≤ e) (he2 : -300 ≤ e2) : (0 ≤ lessD v e v2 e2 ↔ v2 * pw e2 ≤ v * pw e) ∧ (lessD v e v2 e2 ≤ 0 ↔ v * pw e ≤ v2 * pw e2) := by
  have h := less_pw (v := v) (v2 := v2) he he2
  have hp := pw_pos (lessL e e2)
  generalize lessD v e v2 e2 = d at *
  generalize pw (lessL e e2) = q at *
  constructor
  · constructor
    · intro h1
      have := Int.mul_nonneg h1 (Int.le_of_lt hp)
      omega
    · intro h1
      by_cases h2 : 0 ≤ d
      · exact h2
      · have := Int.mul_lt_mul_of_pos_right (show d < 0 by omega) hp
        omega
  · constructor
    · intro h1
      have := Int.mul_le_mul_of_nonneg_right h1 (Int.le_of_lt hp)
      omega
    · intro h1
      by_cases h2 : d ≤ 0
      · exact h2
      · have := Int.mul_lt_mul_of_pos_right (show 0 < d by omega) hp
        omega
theorem near_pw {v e v2 e2 : Int} (he : -300 ≤ e) (he2 : -300 ≤ e2) (h1 : 2 * (v * pw e - v2 * pw e2) ≤ pw e) (h2 : 2 * (v2 * pw e2 - v * pw e) ≤ pw e) : is_near v e v2 e2 = true := by
  have h := less_pw (v := v) (v2 := v2) he he2
  have hl : lessL e e2 ≤ e ∧ lessL e e2 ≤ e2 ∧ -300 ≤ lessL e e2 := by unfold lessL; split <;> omega
  have hp := pw_pos (lessL e e2)
  have hq := pw_sub hl.2.2 hl.1
  unfold is_near
  refine decide_eq_true ?_
  generalize lessD v e v2 e2 = d at *
  generalize pw (lessL e e2) = q at *
  generalize (10 : Int) ^ (e - lessL e e2).toNat = u at *
  have a1 : 2 * d ≤ u := by
    by_cases g : 2 * d ≤ u
    · exact g
    · have := Int.mul_lt_mul_of_pos_right (show u < 2 * d by omega) hp
      rw [Int.mul_assoc, h] at this
      rw [Int.mul_comm q u] at hq
      omega
  have a2 : 2 * (-d) ≤ u := by
    by_cases g : 2 * (-d) ≤ u
    · exact g
    · have := Int.mul_lt_mul_of_pos_right (show u < 2 * (-d) by omega) hp
      rw [Int.mul_assoc, Int.neg_mul, h] at this
      rw [Int.mul_comm q u] at hq
      omega
  split <;> omega
/-- the rounding: 2 R u ≤ 2 N x + u < 2 (R + 1) u -/
theorem scaled_pw {n e r : Int} (hr : -300 ≤ r) (he : -300 ≤ e) : 2 * (scaled n (e - r) * pw r) ≤ 2 * (n * pw e) + pw r ∧ 2 * (n * pw e) + pw r < 2 * (scaled n (e - r) * pw r) + 2 * pw r := by
  unfold scaled
  split
  · rename_i h
    have := pw_sub hr (show r ≤ e by omega)
    have hp := pw_pos r
    have e1 : n * 10 ^ (e - r).toNat * pw r = n * pw e := by rw [this, Int.mul_assoc, Int.mul_comm (pw r)]
    rw [e1]
    omega
  · rename_i h
    have hq := pw_sub he (show e ≤ r by omega)
    have hp := pw_pos e
    rw [show -(e - r) = r - e by omega]
    have hu := pow10_pos (r - e).toNat
    rw [Int.fdiv_eq_ediv_of_nonneg _ (by omega)]
    generalize (10 : Int) ^ (r - e).toNat = u at *
    have d1 := Int.mul_ediv_self_le (x := 2 * n + u) (k := 2 * u) (by omega)
    have d2 := Int.lt_mul_ediv_self_add (x := 2 * n + u) (k := 2 * u) (by omega)
    generalize (2 * n + u) / (2 * u) = R at *
    generalize pw e = q at *
    rw [hq]
    have d1' := Int.mul_le_mul_of_nonneg_right d1 (Int.le_of_lt hp)
    have d2' := Int.mul_lt_mul_of_pos_right d2 hp
    have e1 : 2 * u * R * q = 2 * (R * (q * u)) := by
      rw [Int.mul_assoc, Int.mul_assoc, Int.mul_left_comm u R q, Int.mul_comm u q]
    have e2 : (2 * n + u) * q = 2 * (n * q) + q * u := by rw [Int.add_mul, Int.mul_assoc, Int.mul_comm u q]
    have e3 : (2 * u * R + 2 * u) * q = 2 * (R * (q * u)) + 2 * (q * u) := by rw [Int.add_mul, e1, Int.mul_assoc, Int.mul_comm u q]
    rw [e1, e2] at d1'
    rw [e2, e3] at d2'
    exact ⟨d1', d2'⟩
theorem scaled_mono {n e n2 e2 r : Int} (hr : -300 ≤ r) (he : -300 ≤ e) (he2 : -300 ≤ e2) (h : n * pw e ≤ n2 * pw e2) : scaled n (e - r) ≤ scaled n2 (e2 - r) := by
  have h1 := (scaled_pw (n := n) hr he).1
  have h2 := (scaled_pw (n := n2) hr he2).2
  have hp := pw_pos r
  generalize scaled n (e - r) = R at *
  generalize scaled n2 (e2 - r) = S at *
  by_cases g : R ≤ S
  · exact g
  · have := Int.mul_le_mul_of_nonneg_right (show S + 1 ≤ R by omega) (Int.le_of_lt hp)
    rw [Int.add_mul] at this
    omega
theorem scaled_same {n e n2 e2 r : Int} (hr : -300 ≤ r) (he : -300 ≤ e) (he2 : -300 ≤ e2) (h : n * pw e = n2 * pw e2) : scaled n (e - r) = scaled n2 (e2 - r) :=
  Int.le_antisymm (scaled_mono hr he he2 (Int.le_of_eq h)) (scaled_mono hr he2 he (Int.le_of_eq h.symm))
theorem scaled_ge {n e r B : Int} (hr : -300 ≤ r) (he : -300 ≤ e) (h : B * pw r ≤ n * pw e) : B ≤ scaled n (e - r) := by
  have h2 := (scaled_pw (n := n) hr he).2
  have hp := pw_pos r
  generalize scaled n (e - r) = R at *
  by_cases g : B ≤ R
  · exact g
  · have := Int.mul_le_mul_of_nonneg_right (show R + 1 ≤ B by omega) (Int.le_of_lt hp)
    rw [Int.add_mul] at this
    omega
theorem scaled_le {n e r B : Int} (hr : -300 ≤ r) (he : -300 ≤ e) (h : n * pw e ≤ B * pw r) : scaled n (e - r) ≤ B := by
  have h1 := (scaled_pw (n := n) hr he).1
  have hp := pw_pos r
  generalize scaled n (e - r) = R at *
  by_cases g : R ≤ B
  · exact g
  · have := Int.mul_le_mul_of_nonneg_right (show B + 1 ≤ R by omega) (Int.le_of_lt hp)
    rw [Int.add_mul] at this
    omega
/-- a positive number's decade d: pw (d - 1) ≤ n 10^e < pw d -/
theorem decade {n e : Int} (h : 0 < n) (he : -300 ≤ e) : pw (((strOf n).length : Int) + e - 1) ≤ n * pw e ∧ n * pw e < pw (((strOf n).length : Int) + e) := by
  obtain ⟨h1, h2, h3⟩ := size_strOf h rfl
  generalize (strOf n).length = k at *
  have hp := pw_pos e
  rw [show (k : Int) + e - 1 = e + ((k - 1 : Nat) : Int) by omega, show (k : Int) + e = e + ((k : Nat) : Int) by omega, pw_add he (by omega), pw_add he (by omega), Int.toNat_natCast, Int.toNat_natCast, Int.mul_comm n]
  exact ⟨Int.mul_le_mul_of_nonneg_left h1 (Int.le_of_lt hp), Int.mul_lt_mul_of_pos_left h2 hp⟩
theorem pw_lt_iff {a b : Int} (ha : -300 ≤ a) (h : pw a < pw b) : a < b := by
  by_cases g : a < b
  · exact g
  · have := pw_le (show b ≤ a by omega); omega
theorem decade_le {n e n2 e2 : Int} (h : 0 < n) (h2 : 0 < n2) (he : -300 ≤ e) (he2 : -300 ≤ e2) (hv : n * pw e ≤ n2 * pw e2) : ((strOf n).length : Int) + e ≤ ((strOf n2).length : Int) + e2 := by
  have a := decade h he
  have b := decade h2 he2
  have hk := pos_strOf (n := n) (by omega)
  have := pw_lt_iff (a := ((strOf n).length : Int) + e - 1) (b := ((strOf n2).length : Int) + e2) (by omega) (by omega)
  omega
end
section
open PySem.NumText
def ab (v : Int) : Int := if v < 0 then -v else v
theorem ab_nonneg (v : Int) : 0 ≤ ab v := by unfold ab; split <;> omega
theorem ab_ab (v : Int) : ab (ab v) = ab v := by
  have := ab_nonneg v
  show (if ab v < 0 then -ab v else ab v) = ab v
  rw [if_neg (by omega)]
theorem Shp.blank {x : Str} {neg : Bool} {body tail : List Nat} (S : Shp x neg body tail) (j : Int) : Shp (x ++ Txt.mul (Str.ofString " ") j) neg body tail := by
  obtain ⟨a, b, e⟩ := S.eq
  refine ⟨⟨a, b + j.toNat, ?_⟩, S.ne, S.num, S.vis, S.stop⟩
  rw [cs_app, cs_mulsp, e, ← List.replicate_append_replicate]
  simp only [List.append_assoc]
theorem Shp.first {x : Str} {neg : Bool} {body tail : List Nat} (S : Shp x neg body tail) : (Txt.item x 0 == Str.ofString "*") = false := by
  obtain ⟨a, b, e⟩ := S.eq
  have hb : ∀ c r, body = c :: r → c ≠ 42 := by
    intro c r hb h
    have := S.num c (by rw [hb]; exact List.mem_cons_self ..)
    rw [h] at this
    exact absurd this (by decide)
  have hh : ∃ c r, x.cps.toList = c :: r ∧ c ≠ 42 := by
    cases a with
    | succ n => exact ⟨32, _, by rw [e, List.replicate_succ, List.cons_append], by decide⟩
    | zero =>
      cases neg with
      | true => exact ⟨45, body ++ tail ++ List.replicate b 32, by rw [e]; simp, by decide⟩
      | false =>
        cases hbb : body with
        | nil => exact absurd hbb S.ne
        | cons c r => exact ⟨c, r ++ tail ++ List.replicate b 32, by rw [e, hbb]; simp, hb c r hbb⟩
  obtain ⟨c, r, h1, h2⟩ := hh
  have hl := cs_len x
  rw [h1, List.length_cons] at hl
  rw [item_eq (by decide) (by omega), h1]
  refine beq_eq_false_iff_ne.mpr fun h => h2 ?_
  have := congrArg (fun z : Str => z.cps.toList) h
  simp only [show (Str.ofString "*").cps.toList = [42] from by decide +kernel] at this
  simpa using this
theorem cs_sign (b : Bool) : (sign_text b false).cps.toList = if b = true then [45] else [] := by cases b <;> decide +kernel
theorem point_shp {y z : Str} {n : Int} {neg : Bool} {Z tail : List Nat} (hy : AllDigits y.cps.toList) (hz : z.cps.toList = Z ++ tail) (hZ : AllDigits Z) (hv : ∀ c ∈ tail, 33 ≤ c ∧ c < 127) (hs : ∀ c, tail.head? = some c → isNum c = false)
    (h : (y.length : Int) + z.length + 3 ≤ n) : Shp (point_field (sign_text neg false) y z n) neg ((if y.cps.toList = [] then [48] else y.cps.toList) ++ 46 :: Z) tail := by
  have hl := sign_len neg false
  refine ⟨⟨_, 0, by rw [point_cs (by omega), cs_sign, hz]; simp only [List.replicate_zero, List.append_nil, List.append_assoc, List.cons_append]; rfl⟩, by simp, ?_, hv, hs⟩
  intro c hc
  rcases List.mem_append.mp hc with hc | hc
  · split at hc
    · rw [List.mem_singleton.mp hc]; decide
    · exact dig_num hy c hc
  · rcases List.mem_cons.mp hc with hc | hc
    · rw [hc]; decide
    · exact dig_num hZ c hc
theorem body_val {y : Str} {Z : List Nat} (hy : AllDigits y.cps.toList) (hZ : AllDigits Z) : ((if y.cps.toList = [] then [48] else y.cps.toList) ++ 46 :: Z).foldl rstep (0, 0, false) = ((digitsVal (y.cps.toList ++ Z) : Int), (Z.length : Int), true) := by
  split
  · rename_i h
    rw [rstep_body (by intro c hc; rw [List.mem_singleton.mp hc]; omega) hZ, h]
    rfl
  · exact rstep_body hy hZ
theorem fixed_shp {N e width places scale : Int} {K : Nat} (hN : 0 ≤ N) (hp : 0 ≤ places) (hK : 0 < K) (hR : scaled N (e + scale + places) < 10 ^ K) (hpK : places ≤ K) (hw : K + 3 ≤ width) :
    ∃ body, body.foldl rstep (0, 0, false) = (scaled N (e + scale + places), places, true) ∧ ∀ u, ab u = N → Shp (edit_fixed u e width places scale false) (decide (u < 0) && decide (0 < scaled N (e + scale + places))) body [] := by
  have h0 : 0 ≤ scaled N (e + scale + places) := scaled_nonneg hN
  unfold edit_fixed ab
  dsimp only
  suffices H : ∀ R : Int, 0 ≤ R → R < 10 ^ K → ∃ body : List Nat, body.foldl rstep (0, 0, false) = (R, places, true) ∧ ∀ b, Shp (point_field (sign_text b false)
      (Txt.slice (Txt.mul (Str.ofString "0") (places - (((if R = 0 then Str.ofString "" else strOf R).length : Nat) : Int)) ++ (if R = 0 then Str.ofString "" else strOf R)) none (some ((((Txt.mul (Str.ofString "0") (places - (((if R = 0 then Str.ofString "" else strOf R).length : Nat) : Int)) ++ (if R = 0 then Str.ofString "" else strOf R)).length : Nat) : Int) - places)))
      (Txt.slice (Txt.mul (Str.ofString "0") (places - (((if R = 0 then Str.ofString "" else strOf R).length : Nat) : Int)) ++ (if R = 0 then Str.ofString "" else strOf R)) (some ((((Txt.mul (Str.ofString "0") (places - (((if R = 0 then Str.ofString "" else strOf R).length : Nat) : Int)) ++ (if R = 0 then Str.ofString "" else strOf R)).length : Nat) : Int) - places)) none) width) b body [] by
    obtain ⟨body, h1, h2⟩ := H _ h0 hR
    refine ⟨body, h1, fun u hu => ?_⟩
    rw [hu]
    exact h2 _
  intro R h0 hR
  generalize hd : (if R = 0 then Str.ofString "" else strOf R) = d0
  have f1 : AllDigits d0.cps.toList := by
    rw [← hd]; split
    · rw [cs_nil]; intro c hc; cases hc
    · exact dig_strOf h0
  have f2 : (digitsVal d0.cps.toList : Int) = R := by
    rw [← hd]; split
    · rename_i h; rw [cs_nil, h]; rfl
    · exact dv_strOf h0
  have f3 : d0.length ≤ K := by
    rw [← hd]; split
    · rw [lenD]; omega
    · exact (len_strOf h0 hK).mpr hR
  clear hd
  have g0 : (Txt.mul (Str.ofString "0") (places - (d0.length : Int)) ++ d0).cps.toList = List.replicate (places - (d0.length : Int)).toNat 48 ++ d0.cps.toList := by rw [cs_app, cs_mul0]
  generalize Txt.mul (Str.ofString "0") (places - (d0.length : Int)) ++ d0 = dd at *
  have g1 : AllDigits dd.cps.toList := by rw [g0]; exact dig_app (dig_rep _) f1
  have g2 : (digitsVal dd.cps.toList : Int) = R := by rw [g0, dv_pad, f2]
  have g3 : places ≤ (dd.length : Int) ∧ dd.length ≤ K := by
    rw [← cs_len, g0, List.length_append, List.length_replicate, cs_len]
    omega
  have y1 := cs_to (x := dd) (j := (dd.length : Int) - places) (by omega) (by omega)
  have z1 := cs_from (x := dd) (j := (dd.length : Int) - places) (by omega) (by omega)
  have ly : (Txt.slice dd none (some ((dd.length : Int) - places))).length = ((dd.length : Int) - places).toNat := by rw [← cs_len, y1, List.length_take, cs_len]; omega
  have lz : ((Txt.slice dd (some ((dd.length : Int) - places)) none).length : Int) = places := by rw [← cs_len, z1, List.length_drop, cs_len]; omega
  generalize Txt.slice dd none (some ((dd.length : Int) - places)) = y at *
  generalize Txt.slice dd (some ((dd.length : Int) - places)) none = z at *
  have yd : AllDigits y.cps.toList := by rw [y1]; exact dig_take _ g1
  have zd : AllDigits z.cps.toList := by rw [z1]; exact dig_drop _ g1
  refine ⟨_, ?_, fun b => point_shp yd (by rw [List.append_nil]) zd (by simp) (by simp) (by omega)⟩
  rw [body_val yd zd, y1, z1, List.take_append_drop, g2, ← z1, cs_len, lz]
/-- the leading figures -/
theorem lead_val {N e count : Int} (hN : 0 < N) (he : -100 ≤ e) (he' : e ≤ 100) (hs : (strOf N).length ≤ 20) (hc : 1 ≤ count) (hc' : count ≤ 20) : ∃ (M : Int) (c : Nat), c ≤ 1 ∧
    scaled N (e - (((strOf N).length : Int) + e - count)) = M * 10 ^ c ∧ 0 ≤ M ∧ M < 10 ^ 21 ∧ ∀ u, ab u = N → leadP u e count = ((strOf N).length : Int) + e + c ∧ AllDigits (leadD u count).cps.toList ∧ ((leadD u count).length : Int) = count ∧ (digitsVal (leadD u count).cps.toList : Int) = M := by
  have hd := decade hN (e := e) (by omega)
  have hk := pos_strOf (n := N) (by omega)
  have lo := scaled_ge (n := N) (e := e) (r := ((strOf N).length : Int) + e - count) (B := 10 ^ (count - 1).toNat) (by omega) (by omega) (by
    rw [Int.mul_comm (10 ^ _), ← pw_add (by omega) (by omega), show ((strOf N).length : Int) + e - count + (count - 1) = ((strOf N).length : Int) + e - 1 by omega]; exact hd.1)
  have hi := scaled_le (n := N) (e := e) (r := ((strOf N).length : Int) + e - count) (B := 10 ^ count.toNat) (by omega) (by omega) (by
    rw [Int.mul_comm (10 ^ _), ← pw_add (by omega) (by omega), show ((strOf N).length : Int) + e - count + count = ((strOf N).length : Int) + e by omega]; exact Int.le_of_lt hd.2)
  have e0 : e - (((strOf N).length : Int) + e - count) = count - ((strOf N).length : Int) := by omega
  rw [e0] at lo hi ⊢
  unfold ab leadP leadD
  dsimp only
  suffices H : ∀ R : Int, 10 ^ (count - 1).toNat ≤ R → R ≤ 10 ^ count.toNat → ∃ (M : Int) (c : Nat), c ≤ 1 ∧ R = M * 10 ^ c ∧ 0 ≤ M ∧ M < 10 ^ 21 ∧
      (if count < ((strOf R).length : Int) then ((strOf N).length : Int) + e + 1 else ((strOf N).length : Int) + e) = ((strOf N).length : Int) + e + c ∧ AllDigits (if count < ((strOf R).length : Int) then Txt.slice (strOf R) none (some count) else strOf R).cps.toList ∧
      ((if count < ((strOf R).length : Int) then Txt.slice (strOf R) none (some count) else strOf R).length : Int) = count ∧ (digitsVal (if count < ((strOf R).length : Int) then Txt.slice (strOf R) none (some count) else strOf R).cps.toList : Int) = M by
    obtain ⟨M, c, h1, h2, h3, h3', h4⟩ := H _ lo hi
    refine ⟨M, c, h1, h2, h3, h3', fun u hu => ?_⟩
    rw [hu, if_neg (show ¬ N = 0 by omega), if_neg (show ¬ N = 0 by omega)]
    exact h4
  intro R lo hi
  obtain ⟨C, rfl⟩ : ∃ C : Nat, count = C := ⟨count.toNat, by omega⟩
  rw [show ((C : Int) - 1).toNat = C - 1 by omega] at lo
  rw [Int.toNat_natCast] at hi
  have hp := pow10_pos (C - 1)
  have h20 : (10 : Int) ^ C ≤ 10 ^ 20 := pow10_le (by omega)
  by_cases hR : R < 10 ^ C
  · have hl := size_uniq (n := R) (k := C) (by omega) lo hR (by omega)
    have hn : ¬ (C : Int) < ((strOf R).length : Int) := by omega
    rw [if_neg hn, if_neg hn]
    exact ⟨R, 0, by omega, by omega, by omega, by omega, by omega, dig_strOf (by omega), by omega, dv_strOf (by omega)⟩
  · have e1 : R = 10 ^ C := by omega
    have e2 : (10 : Int) ^ C = 10 ^ (C - 1) * 10 := by rw [← Int.pow_succ]; congr 1; omega
    have hl := size_uniq (n := R) (k := C + 1) (by omega) (by rw [show C + 1 - 1 = C by omega]; omega) (by rw [Int.pow_succ]; omega) (by omega)
    have hn : (C : Int) < ((strOf R).length : Int) := by omega
    rw [if_pos hn, if_pos hn]
    have hc := cs_to (x := strOf R) (j := C) (by omega) (by omega)
    have hd0 := dig_strOf (n := R) (by omega)
    have hcut := dv_cut hd0 (by rw [cs_len]; omega)
    rw [cs_len, hl, show C + 1 - 1 = C by omega] at hcut
    rw [Int.toNat_natCast] at hc
    have hv := dv_strOf (n := R) (by omega)
    refine ⟨10 ^ (C - 1), 1, by omega, by omega, by omega, by omega, by omega, by rw [hc]; exact dig_take _ hd0, ?_, ?_⟩
    · rw [← cs_len, hc, List.length_take, cs_len]; omega
    · rw [hc, hcut]; omega
end
section
open PySem.NumText
theorem leadD_ab (u count : Int) : leadD u count = leadD (ab u) count := by
  show leadD u count = leadD (ab u) count
  unfold leadD
  dsimp only
  rw [show (if ab u < 0 then -ab u else ab u) = ab u from ab_ab u]
  rfl
theorem leadP_ab (u e count : Int) : leadP u e count = leadP (ab u) e count := by
  unfold leadP
  dsimp only
  rw [show (if ab u < 0 then -ab u else ab u) = ab u from ab_ab u]
  rfl
theorem ab_zero (u : Int) : ab u = 0 ↔ u = 0 := by unfold ab; split <;> omega
theorem expP_ab (u e count scale : Int) : expP u e count scale = expP (ab u) e count scale := by
  unfold expP
  rw [← leadP_ab]
  by_cases h : u = 0
  · rw [if_neg (by omega), if_neg (by rw [ne_eq, ab_zero]; omega)]
  · rw [if_pos h, if_pos (by rw [ne_eq, ab_zero]; exact h)]
theorem exp_tail {letter : Str} {L : Nat} {P k : Int} (hL : letter.cps.toList = [L]) (hl : L = 69 ∨ L = 68) (h1 : -99 ≤ P) (h2 : P ≤ 99) (hk : 2 ≤ k) (hk' : k ≤ 3) :
    TailR (expText letter P k).cps.toList P ∧ (∀ c ∈ (expText letter P k).cps.toList, 33 ≤ c ∧ c < 127) ∧ (∀ c, (expText letter P k).cps.toList.head? = some c → isNum c = false) ∧ (expText letter P k).length ≤ 5 := by
  have hlen := expText_len (letter := letter) (by rw [← cs_len, hL]; exact Nat.le_refl _) h1 h2 hk hk'
  unfold expText at hlen ⊢
  have ha : (if P < 0 then -P else P) = ab P := rfl
  rw [ha] at hlen ⊢
  have hn := ab_nonneg P
  have hd := dig_strOf hn
  have hv := dv_strOf hn
  have hp := pos_strOf hn
  generalize hz : (k - ((strOf (ab P)).length : Int)) = z at *
  have e : (letter ++ (if P < 0 then Str.ofString "-" else Str.ofString "+") ++ Txt.mul (Str.ofString "0") z ++ strOf (ab P)).cps.toList = L :: (if decide (P < 0) = true then 45 else 43) :: (List.replicate z.toNat 48 ++ (strOf (ab P)).cps.toList) := by
    rw [cs_app, cs_app, cs_app, cs_mul0, hL]
    by_cases h : P < 0
    · rw [if_pos h, cs_minus, decide_eq_true h]; simp
    · rw [if_neg h, cs_plus, decide_eq_false h]; simp
  have hl2 := hlen.1
  rw [← cs_len, e] at hl2
  simp only [List.length_cons] at hl2
  have hds : AllDigits (List.replicate z.toNat 48 ++ (strOf (ab P)).cps.toList) := dig_app (dig_rep _) hd
  have hdv : (digitsVal (List.replicate z.toNat 48 ++ (strOf (ab P)).cps.toList) : Int) = ab P := by rw [dv_pad, hv]
  have hne : (List.replicate z.toNat 48 ++ (strOf (ab P)).cps.toList) ≠ [] := by
    intro h
    have := (List.append_eq_nil_iff.mp h).2
    have h3 := cs_len (strOf (ab P))
    rw [this] at h3
    simp at h3
    omega
  rw [e]
  generalize (List.replicate z.toNat 48 ++ (strOf (ab P)).cps.toList) = ds at *
  refine ⟨?_, ?_, ?_, hlen.1⟩
  · have hi : PySem.intText? ⟨ds.toArray⟩ = some (ab P) := by
      rw [intText_digits (x := ⟨ds.toArray⟩) hds hne (by show ds.toArray.size ≤ _; simp; omega)]
      exact congrArg some hdv
    have ht := TailR.exp L (decide (P < 0)) ds (ab P) hl hi (by omega)
    have hP : ab P * (if decide (P < 0) = true then -1 else 1) = P := by
      unfold ab
      by_cases h : P < 0
      · rw [decide_eq_true h, if_pos h, if_pos rfl]; omega
      · rw [decide_eq_false h, if_neg h]; simp
    rw [hP] at ht
    exact ht
  · intro c hc
    rcases List.mem_cons.mp hc with hc | hc
    · omega
    · rcases List.mem_cons.mp hc with hc | hc
      · rw [hc]; split <;> decide
      · have := hds c hc; omega
  · intro c hc
    have : L = c := by simpa using hc
    subst this
    rcases hl with rfl | rfl <;> decide
theorem lead_all {N e count scale : Int} (hN : 0 ≤ N) (hN' : N ≤ 10 ^ 10) (he : -15 ≤ e) (he' : e ≤ 10) (hc : 1 ≤ count) (hc' : count ≤ 10) (hs : -10 ≤ scale) (hs' : scale ≤ 10) : ∃ (M r : Int) (c : Nat),
    AllDigits (leadD N count).cps.toList ∧ ((leadD N count).length : Int) = count ∧ (digitsVal (leadD N count).cps.toList : Int) = M ∧ 0 ≤ M ∧ M < 10 ^ 21 ∧ -99 ≤ expP N e count scale ∧ expP N e count scale ≤ 99 ∧ -100 ≤ r ∧
    scaled N (e - r) = M * 10 ^ c ∧ expP N e count scale - (count - scale) = r + c ∧ c ≤ 1 ∧ (0 < N → r = ((strOf N).length : Int) + e - count) := by
  by_cases h0 : N = 0
  · subst h0
    have e1 : leadD 0 count = Txt.mul (Str.ofString "0") count := rfl
    have e2 : expP 0 e count scale = 0 := rfl
    have e3 : scaled 0 (e - (0 - (count - scale))) = 0 := by
      have a := scaled_nonneg (n := 0) (p := e - (0 - (count - scale))) (by omega)
      have b := scaled_le (n := 0) (e := e) (r := 0 - (count - scale)) (B := 0) (by omega) (by omega) (by omega)
      omega
    rw [e1, e2]
    refine ⟨0, 0 - (count - scale), 0, ?_, ?_, ?_, by omega, by omega, by omega, by omega, by omega, ?_, by omega, by omega, fun h => absurd h (by omega)⟩
    · rw [cs_mul0]; exact dig_rep _
    · rw [← cs_len, cs_mul0, List.length_replicate]; omega
    · rw [cs_mul0, dv_zeros]; rfl
    · rw [e3]; rfl
  · have hp : 0 < N := by omega
    have hs11 := (len_strOf hN (k := 11) (by omega)).mpr (by omega)
    have hs1 := pos_strOf hN
    obtain ⟨M, c, h1, h2, h3, h4, h5⟩ := lead_val hp (e := e) (count := count) (by omega) (by omega) (by omega) hc (by omega)
    obtain ⟨a1, a2, a3, a4⟩ := h5 N (by unfold ab; rw [if_neg (by omega)])
    have e2 : expP N e count scale = ((strOf N).length : Int) + e + c - scale := by unfold expP; rw [if_pos h0, a1]
    rw [e2]
    exact ⟨M, _, c, a2, a3, a4, h3, h4, by omega, by omega, by omega, h2, by omega, h1, fun _ => rfl⟩
/-- what one text tells: M 10^f, the rounding of N 10^e on the grid 10^r -/
def Tells (N e : Int) (fig : List Nat) (tail : List Nat) (M f r : Int) : Prop :=
  (∃ pw b g, TailR tail pw ∧ fig.foldl rstep (0, 0, false) = (M, b, g) ∧ f = pw - b) ∧ 0 ≤ M ∧ M ≤ 10 ^ 60 ∧ -150 ≤ f ∧ f ≤ 150 ∧ -100 ≤ r ∧ ∃ c : Nat, scaled N (e - r) = M * 10 ^ c ∧ f = r + c
theorem exp_shp {letter : Str} {L : Nat} {N e places k scale : Int} (hL : letter.cps.toList = [L]) (hl : L = 69 ∨ L = 68) (hk : 2 ≤ k) (hk' : k ≤ 3) (hN : 0 ≤ N) (hN' : N ≤ 10 ^ 10) (he : -15 ≤ e) (he' : e ≤ 10)
    (hp : 1 ≤ places) (hp' : places ≤ 9) (hs : -places < scale) (hs' : scale ≤ places + 1) : ∃ body tail M f r, Tells N e body tail M f r ∧ (0 < N → r = ((strOf N).length : Int) + e - (if scale ≤ 0 then places + scale else places + 1)) ∧
      ∀ u, ab u = N → Shp (edit_exp letter u e 44 places k scale false) (decide (u < 0)) body tail := by
  unfold edit_exp
  by_cases h : scale ≤ 0
  · simp only [if_pos h]
    obtain ⟨M, r, c, a1, a2, a3, a4, a5, a6, a7, a8, a9, a10, a11, a12⟩ := lead_all (count := places + scale) (scale := scale) hN hN' he he' (by omega) (by omega) (by omega) (by omega)
    obtain ⟨t1, t2, t3, t4⟩ := exp_tail hL hl a6 a7 hk hk'
    have hz : AllDigits (List.replicate (-scale).toNat 48 ++ (leadD N (places + scale)).cps.toList) := dig_app (dig_rep _) a1
    have hzl : (List.replicate (-scale).toNat 48 ++ (leadD N (places + scale)).cps.toList).length = places := by rw [List.length_append, List.length_replicate, cs_len]; omega
    have hn : AllDigits (Str.ofString "").cps.toList := by rw [cs_nil]; intro c hc; cases hc
    have hzz : (Txt.mul (Str.ofString "0") (-scale) ++ leadD N (places + scale) ++ expText letter (expP N e (places + scale) scale) k).cps.toList = (List.replicate (-scale).toNat 48 ++ (leadD N (places + scale)).cps.toList) ++ (expText letter (expP N e (places + scale) scale) k).cps.toList := by rw [cs_app, cs_app, cs_mul0]
    have hbv := body_val hn hz
    refine ⟨_, (expText letter (expP N e (places + scale) scale) k).cps.toList, M, r + c, r, ⟨⟨_, _, _, t1, hbv.trans (Prod.ext ?q1 rfl), ?q2⟩, a4, by omega, by omega, by omega, a8, c, a9, rfl⟩, a12, fun u hu => ?q3⟩
    case q3 =>
      rw [leadD_ab, expP_ab, hu]
      refine point_shp hn hzz hz t2 t3 ?_
      rw [lenD, Str.length_append, Str.length_append]
      have := len_mul (Str.ofString "0") (-scale)
      rw [lenC, if_neg (by simp; omega)] at this
      omega
    case q1 => exact (congrArg (fun x : List Nat => (digitsVal x : Int)) (by rw [cs_nil, List.nil_append])).trans ((congrArg _ (dv_pad _ _)).trans a3)
    case q2 => omega
  · simp only [if_neg h]
    obtain ⟨M, r, c, a1, a2, a3, a4, a5, a6, a7, a8, a9, a10, a11, a12⟩ := lead_all (count := places + 1) (scale := scale) hN hN' he he' (by omega) (by omega) (by omega) (by omega)
    obtain ⟨t1, t2, t3, t4⟩ := exp_tail hL hl a6 a7 hk hk'
    have c1 := cs_to (x := leadD N (places + 1)) (j := scale) (by omega) (by omega)
    have c2 := cs_from (x := leadD N (places + 1)) (j := scale) (by omega) (by omega)
    have hy : AllDigits (Txt.slice (leadD N (places + 1)) none (some scale)).cps.toList := by rw [c1]; exact dig_take _ a1
    have hz : AllDigits ((leadD N (places + 1)).cps.toList.drop scale.toNat) := dig_drop _ a1
    have hzz : (Txt.slice (leadD N (places + 1)) (some scale) none ++ expText letter (expP N e (places + 1) scale) k).cps.toList = (leadD N (places + 1)).cps.toList.drop scale.toNat ++ (expText letter (expP N e (places + 1) scale) k).cps.toList := by rw [cs_app, c2]
    have hbv := body_val hy hz
    refine ⟨_, (expText letter (expP N e (places + 1) scale) k).cps.toList, M, r + c, r, ⟨⟨_, _, _, t1, hbv.trans (Prod.ext ?q1 rfl), ?q2⟩, a4, by omega, by omega, by omega, a8, c, a9, rfl⟩, a12, fun u hu => ?q3⟩
    case q3 =>
      rw [leadD_ab, expP_ab, hu]
      refine point_shp hy hzz hz t2 t3 ?_
      rw [Str.length_append, ← cs_len, ← cs_len (Txt.slice (leadD N (places + 1)) (some scale) none), c1, c2, List.length_take, List.length_drop, cs_len]
      omega
    case q1 => exact (congrArg (fun x : List Nat => (digitsVal x : Int)) (by rw [c1, List.take_append_drop])).trans a3
    case q2 => rw [List.length_drop, cs_len]; omega
end
section
open PySem.NumText
theorem scaled_lt40 {n p : Int} (h : 0 ≤ n) (h2 : n ≤ 10 ^ 10) (hp : p ≤ 30) : scaled n p ≤ 10 ^ 40 := by
  unfold scaled
  split
  · have h3 : (10 : Int) ^ p.toNat ≤ 10 ^ 30 := pow10_le (by omega)
    calc n * 10 ^ p.toNat ≤ n * 10 ^ 30 := Int.mul_le_mul_of_nonneg_left h3 h
      _ ≤ 10 ^ 40 := by omega
  · have h3 := pow10_pos (-p).toNat
    rw [Int.fdiv_eq_ediv_of_nonneg _ (by omega)]
    generalize (10 : Int) ^ (-p).toNat = x at *
    have : (2 * n + x) / (2 * x) < 10 ^ 40 := by
      apply Int.ediv_lt_of_lt_mul (by omega)
      omega
    omega
/-- the figures that an item tells of a number of decade d -/
def cnt (kind : Nat) (places scale d : Int) : Int :=
  if kind = 3 ∧ 0 ≤ d ∧ d ≤ places then places else if scale ≤ 0 then places + scale else places + 1
theorem cnt_no {kind : Nat} {places scale d : Int} (h : ¬ (kind = 3 ∧ 0 ≤ d ∧ d ≤ places)) : cnt kind places scale d = if scale ≤ 0 then places + scale else places + 1 := if_neg h
theorem gen_iff {u e places N : Int} (hu : ab u = N) (hN : 0 ≤ N) : is_general u e places = true ↔ 0 < N ∧ 0 ≤ ((strOf N).length : Int) + e ∧ ((strOf N).length : Int) + e ≤ places := by
  unfold is_general
  rw [show (if u < 0 then -u else u) = N from hu]
  have hz := ab_zero u
  rw [hu] at hz
  generalize ((strOf N).length : Int) + e = q
  by_cases h : u = 0
  · rw [if_pos h]
    constructor
    · intro h; cases h
    · intro h1; omega
  · rw [if_neg h]
    by_cases h2 : 0 ≤ q
    · rw [if_pos h2, decide_eq_true_eq]; omega
    · rw [if_neg h2, decide_eq_true_eq]; omega
theorem real_tells {kind : Nat} {N e places k scale : Int} (hkd : kind ≤ 3) (hk : 2 ≤ k) (hk' : k ≤ 3) (hN : 0 ≤ N) (hN' : N ≤ 10 ^ 10) (he : -15 ≤ e) (he' : e ≤ 10)
    (hp : 1 ≤ places) (hp' : places ≤ 9) (hs : -places < scale) (hs' : scale ≤ places + 1) : ∃ body tail M f r, Tells N (if kind = 0 then e + scale else e) body tail M f r ∧
      (kind = 0 → r = -places) ∧ (kind ≠ 0 → 0 < N → r = ((strOf N).length : Int) + e - cnt kind places scale (((strOf N).length : Int) + e)) ∧
      ∀ u, ab u = N → ∃ neg, Shp (edit_real kind u e places k scale) neg body tail ∧ (neg = true → u < 0) ∧ (neg = false → 0 ≤ u ∨ M = 0) := by
  have expo : ∀ (letter : Str) (L : Nat), letter.cps.toList = [L] → (L = 69 ∨ L = 68) → ∃ body tail M f r, Tells N e body tail M f r ∧ (0 < N → r = ((strOf N).length : Int) + e - (if scale ≤ 0 then places + scale else places + 1)) ∧
      ∀ u, ab u = N → ∃ neg, Shp (edit_exp letter u e 44 places k scale false) neg body tail ∧ (neg = true → u < 0) ∧ (neg = false → 0 ≤ u ∨ M = 0) := by
    intro letter L hL hl
    obtain ⟨body, tail, M, f, r, h1, h2, h3⟩ := exp_shp hL hl hk hk' hN hN' he he' hp hp' hs hs'
    exact ⟨body, tail, M, f, r, h1, h2, fun u hu => ⟨_, h3 u hu, fun h => of_decide_eq_true h, fun h => .inl (by have := of_decide_eq_false h; omega)⟩⟩
  have fixd : ∀ (body : List Nat) (R places : Int), 0 ≤ R → ∀ u : Int, (decide (u < 0) && decide (0 < R)) = true → u < 0 := by
    intro body R places h0 u h
    rw [Bool.and_eq_true] at h
    exact of_decide_eq_true h.1
  have fixd2 : ∀ (R : Int), 0 ≤ R → ∀ u : Int, (decide (u < 0) && decide (0 < R)) = false → 0 ≤ u ∨ R = 0 := by
    intro R h0 u h
    rw [Bool.and_eq_false_iff] at h
    rcases h with h | h
    · have := of_decide_eq_false h; omega
    · have := of_decide_eq_false h; omega
  unfold edit_real
  by_cases k0 : kind = 0
  · simp only [if_pos k0]
    have hR0 : 0 ≤ scaled N (e + scale + places) := scaled_nonneg hN
    have hR1 : scaled N (e + scale + places) ≤ 10 ^ 40 := scaled_lt40 hN hN' (by omega)
    obtain ⟨body, h1, h2⟩ := fixed_shp (N := N) (e := e) (width := 44) (places := places) (scale := scale) (K := 41) hN (by omega) (by omega) (by omega) (by omega) (by omega)
    refine ⟨body, [], scaled N (e + scale + places), -places, -places, ⟨⟨0, _, _, .none, h1, by omega⟩, hR0, by omega, by omega, by omega, by omega, 0, ?_, by omega⟩, fun _ => rfl, fun h => absurd k0 h, fun u hu => ⟨_, h2 u hu, fixd [] _ places hR0 u, fixd2 _ hR0 u⟩⟩
    rw [show e + scale - -places = e + scale + places by omega]; omega
  · simp only [if_neg k0]
    by_cases k1 : kind = 1
    · simp only [if_pos k1]
      obtain ⟨body, tail, M, f, r, h1, h2, h3⟩ := expo (Str.ofString "E") 69 (by decide +kernel) (by omega)
      refine ⟨body, tail, M, f, r, h1, fun h => absurd h k0, fun _ h => ?_, h3⟩
      rw [h2 h, cnt_no (by omega)]
    · simp only [if_neg k1]
      by_cases k2 : kind = 2
      · simp only [if_pos k2]
        obtain ⟨body, tail, M, f, r, h1, h2, h3⟩ := expo (Str.ofString "D") 68 (by decide +kernel) (by omega)
        refine ⟨body, tail, M, f, r, h1, fun h => absurd h k0, fun _ h => ?_, h3⟩
        rw [h2 h, cnt_no (by omega)]
      · simp only [if_neg k2]
        have k3 : kind = 3 := by omega
        unfold edit_general
        by_cases hg : 0 < N ∧ 0 ≤ ((strOf N).length : Int) + e ∧ ((strOf N).length : Int) + e ≤ places
        · have hd := decade hg.1 (e := e) (by omega)
          have hR0 : 0 ≤ scaled N (e + 0 + (places - (((strOf N).length : Int) + e))) := scaled_nonneg hN
          have hR1 : scaled N (e + 0 + (places - (((strOf N).length : Int) + e))) ≤ 10 ^ places.toNat := by
            rw [show e + 0 + (places - (((strOf N).length : Int) + e)) = e - (((strOf N).length : Int) + e - places) by omega]
            refine scaled_le (by omega) (by omega) ?_
            rw [Int.mul_comm (10 ^ _), ← pw_add (by omega) (by omega), show ((strOf N).length : Int) + e - places + places = ((strOf N).length : Int) + e by omega]
            exact Int.le_of_lt hd.2
          have h9 : (10 : Int) ^ places.toNat ≤ 10 ^ 9 := pow10_le (by omega)
          obtain ⟨body, h1, h2⟩ := fixed_shp (N := N) (e := e) (width := 44 - (k + 2)) (places := places - (((strOf N).length : Int) + e)) (scale := 0) (K := 10) hN (by omega) (by omega) (by omega) (by omega) (by omega)
          refine ⟨body, [], scaled N (e + 0 + (places - (((strOf N).length : Int) + e))), ((strOf N).length : Int) + e - places, ((strOf N).length : Int) + e - places, ⟨⟨0, _, _, .none, h1, by omega⟩, hR0, by omega, by omega, by omega, by omega, 0, ?_, by omega⟩, fun h => absurd h k0, fun _ _ => ?_, fun u hu => ⟨_, ?_, fixd [] _ places hR0 u, fixd2 _ hR0 u⟩⟩
          · rw [show e - (((strOf N).length : Int) + e - places) = e + 0 + (places - (((strOf N).length : Int) + e)) by omega]; omega
          · unfold cnt; rw [if_pos ⟨k3, hg.2⟩]
          · have hS := h2 u hu
            rw [if_pos ((gen_iff hu hN).mpr hg), show (if u < 0 then -u else u) = N from hu, if_neg (by rw [hS.first]; decide)]
            exact hS.blank _
        · obtain ⟨body, tail, M, f, r, h1, h2, h3⟩ := expo (Str.ofString "E") 69 (by decide +kernel) (by omega)
          refine ⟨body, tail, M, f, r, h1, fun h => absurd h k0, fun _ h => ?_, fun u hu => ?_⟩
          · rw [h2 h, cnt_no (by omega)]
          · rw [if_neg (fun h => hg ((gen_iff hu hN).mp h))]
            exact h3 u hu
end
section
open PySem.NumText
theorem shift_up {a b s n m : Int} (ha : -300 ≤ a) (hb : -300 ≤ b) (hs : 0 ≤ s) : n * pw a ≤ m * pw b ↔ n * pw (a + s) ≤ m * pw (b + s) := by
  rw [pw_add ha hs, pw_add hb hs, ← Int.mul_assoc, ← Int.mul_assoc]
  have hp := pow10_pos s.toNat
  constructor
  · intro h; exact Int.mul_le_mul_of_nonneg_right h (Int.le_of_lt hp)
  · intro h; exact Int.le_of_mul_le_mul_right h hp
theorem shift_le {a b s n m : Int} (ha : -200 ≤ a) (hb : -200 ≤ b) (hs : -50 ≤ s) : n * pw a ≤ m * pw b ↔ n * pw (a + s) ≤ m * pw (b + s) := by
  by_cases h : 0 ≤ s
  · exact shift_up (by omega) (by omega) h
  · have := shift_up (a := a + s) (b := b + s) (s := -s) (n := n) (m := m) (by omega) (by omega) (by omega)
    rw [show a + s + -s = a by omega, show b + s + -s = b by omega] at this
    exact this.symm
theorem ab_pw (v e : Int) : ab v * pw e = if v < 0 then -(v * pw e) else v * pw e := by
  unfold ab; split <;> simp [Int.neg_mul]
theorem mul_sign {v e : Int} : v < 0 ↔ v * pw e < 0 := by
  have hp := pw_pos e
  constructor
  · intro h
    have := Int.mul_lt_mul_of_pos_right h hp
    rw [Int.zero_mul] at this; exact this
  · intro h
    by_cases g : v < 0
    · exact g
    · have := Int.mul_nonneg (show 0 ≤ v by omega) (Int.le_of_lt hp); omega
theorem mul_zero' {v e : Int} : v = 0 ↔ v * pw e = 0 := by
  have hp := pw_pos e
  constructor
  · intro h; rw [h, Int.zero_mul]
  · intro h
    rcases Int.mul_eq_zero.mp h with h | h
    · exact h
    · omega
/-- equal numbers have equal texts -/
theorem fixed_same {v1 e1 v2 e2 width places scale : Int} {plus : Bool} (he1 : -100 ≤ e1) (he2 : -100 ≤ e2) (hsc : -20 ≤ scale) (hpl : places ≤ 50) (hs : decide (v1 < 0) = decide (v2 < 0)) (h : ab v1 * pw e1 = ab v2 * pw e2) : edit_fixed v1 e1 width places scale plus = edit_fixed v2 e2 width places scale plus := by
  have hn : scaled (ab v1) (e1 + scale + places) = scaled (ab v2) (e2 + scale + places) := by
    rw [show e1 + scale + places = e1 + scale - (-places) by omega, show e2 + scale + places = e2 + scale - (-places) by omega]
    refine scaled_same (by omega) (by omega) (by omega) (Int.le_antisymm ?_ ?_)
    · exact (shift_le (by omega) (by omega) (by omega)).mp (Int.le_of_eq h)
    · exact (shift_le (by omega) (by omega) (by omega)).mp (Int.le_of_eq h.symm)
  unfold edit_fixed
  dsimp only
  rw [show (if v1 < 0 then -v1 else v1) = ab v1 from rfl, show (if v2 < 0 then -v2 else v2) = ab v2 from rfl, hn, hs]
theorem decade_same {n e n2 e2 : Int} (h : 0 < n) (h2 : 0 < n2) (he : -300 ≤ e) (he2 : -300 ≤ e2) (hv : n * pw e = n2 * pw e2) : ((strOf n).length : Int) + e = ((strOf n2).length : Int) + e2 :=
  Int.le_antisymm (decade_le h h2 he he2 (Int.le_of_eq hv)) (decade_le h2 h he2 he (Int.le_of_eq hv.symm))
theorem lead_same {v1 e1 v2 e2 count : Int} (he1 : -100 ≤ e1) (he2 : -100 ≤ e2) (hc : count ≤ 50) (h : ab v1 * pw e1 = ab v2 * pw e2) : leadD v1 count = leadD v2 count ∧ leadP v1 e1 count = leadP v2 e2 count := by
  have n1 := ab_nonneg v1
  have n2 := ab_nonneg v2
  have z1 := mul_zero' (v := ab v1) (e := e1)
  have z2 := mul_zero' (v := ab v2) (e := e2)
  rw [h] at z1
  unfold leadD leadP
  dsimp only
  rw [show (if v1 < 0 then -v1 else v1) = ab v1 from rfl, show (if v2 < 0 then -v2 else v2) = ab v2 from rfl]
  by_cases hz : ab v1 = 0
  · have hz2 : ab v2 = 0 := z2.mpr (z1.mp hz)
    rw [if_pos hz, if_pos hz2, if_pos hz, if_pos hz2]
    exact ⟨rfl, rfl⟩
  · have hz2 : ¬ ab v2 = 0 := fun g => hz (z1.mpr (z2.mp g))
    have hd := decade_same (n := ab v1) (n2 := ab v2) (by omega) (by omega) (e := e1) (e2 := e2) (by omega) (by omega) h
    have hp1 := pos_strOf n1
    have hn : scaled (ab v1) (count - ((strOf (ab v1)).length : Int)) = scaled (ab v2) (count - ((strOf (ab v2)).length : Int)) := by
      rw [show count - ((strOf (ab v1)).length : Int) = e1 - (((strOf (ab v1)).length : Int) + e1 - count) by omega, show count - ((strOf (ab v2)).length : Int) = e2 - (((strOf (ab v1)).length : Int) + e1 - count) by omega]
      exact scaled_same (by omega) (by omega) (by omega) h
    rw [if_neg hz, if_neg hz2, if_neg hz, if_neg hz2, hn, hd]
    exact ⟨rfl, rfl⟩
theorem exp_same {letter : Str} {v1 e1 v2 e2 width places k scale : Int} {plus : Bool} (he1 : -100 ≤ e1) (he2 : -100 ≤ e2) (hp : places ≤ 9) (hs : decide (v1 < 0) = decide (v2 < 0)) (h : ab v1 * pw e1 = ab v2 * pw e2) :
    edit_exp letter v1 e1 width places k scale plus = edit_exp letter v2 e2 width places k scale plus := by
  have z1 := mul_zero' (v := ab v1) (e := e1)
  have z2 := mul_zero' (v := ab v2) (e := e2)
  rw [h] at z1
  rw [ab_zero] at z1 z2
  have hx : ∀ count, count ≤ 50 → expP v1 e1 count scale = expP v2 e2 count scale := by
    intro count hc
    unfold expP
    rw [(lead_same (count := count) he1 he2 hc h).2]
    by_cases hz : v1 = 0
    · rw [if_neg (by omega), if_neg (by omega)]
    · rw [if_pos hz, if_pos (by omega)]
  unfold edit_exp
  rw [hs]
  by_cases hsc : scale ≤ 0
  · rw [if_pos hsc, if_pos hsc, (lead_same (count := places + scale) he1 he2 (by omega) h).1, hx _ (by omega)]
  · rw [if_neg hsc, if_neg hsc, (lead_same (count := places + 1) he1 he2 (by omega) h).1, hx _ (by omega)]
theorem real_same {kind : Nat} {v1 e1 v2 e2 places k scale : Int} (he1 : -15 ≤ e1) (he2 : -15 ≤ e2) (he1' : e1 ≤ 10) (he2' : e2 ≤ 10) (hp : 1 ≤ places) (hp' : places ≤ 9) (hsc : -places < scale) (h : v1 * pw e1 = v2 * pw e2) :
    edit_real kind v1 e1 places k scale = edit_real kind v2 e2 places k scale := by
  have s1 := mul_sign (v := v1) (e := e1)
  have s2 := mul_sign (v := v2) (e := e2)
  have a1 := ab_pw v1 e1
  have a2 := ab_pw v2 e2
  rw [h] at s1 a1
  have hiff : v1 < 0 ↔ v2 < 0 := s1.trans s2.symm
  have hs : decide (v1 < 0) = decide (v2 < 0) := by
    by_cases g : v1 < 0
    · rw [decide_eq_true g, decide_eq_true (hiff.mp g)]
    · rw [decide_eq_false g, decide_eq_false (fun x => g (hiff.mpr x))]
  have ha : ab v1 * pw e1 = ab v2 * pw e2 := by
    by_cases g : v1 < 0
    · rw [if_pos g] at a1; rw [if_pos (hiff.mp g)] at a2; omega
    · rw [if_neg g] at a1; rw [if_neg (fun x => g (hiff.mpr x))] at a2; omega
  unfold edit_real
  rw [fixed_same (by omega) (by omega) (by omega) (by omega) hs ha, exp_same (by omega) (by omega) hp' hs ha, exp_same (by omega) (by omega) hp' hs ha]
  suffices H : edit_general v1 e1 44 places k scale false = edit_general v2 e2 44 places k scale false by rw [H]
  have n1 := ab_nonneg v1
  have n2 := ab_nonneg v2
  have z1 := mul_zero' (v := ab v1) (e := e1)
  have z2 := mul_zero' (v := ab v2) (e := e2)
  rw [ha] at z1
  unfold edit_general
  rw [exp_same (by omega) (by omega) hp' hs ha, show (if v1 < 0 then -v1 else v1) = ab v1 from rfl, show (if v2 < 0 then -v2 else v2) = ab v2 from rfl]
  have g1 := gen_iff (u := v1) (e := e1) (places := places) rfl n1
  have g2 := gen_iff (u := v2) (e := e2) (places := places) rfl n2
  by_cases hz : ab v1 = 0
  · rw [if_neg (by rw [g1]; omega), if_neg (by rw [g2]; omega)]
  · have hz2 : ¬ ab v2 = 0 := fun g => hz (z1.mpr (z2.mp g))
    have hd := decade_same (n := ab v1) (n2 := ab v2) (by omega) (by omega) (e := e1) (e2 := e2) (by omega) (by omega) ha
    have hg : is_general v1 e1 places = is_general v2 e2 places := by
      rw [Bool.eq_iff_iff, g1, g2, hd]; omega
    have hp1 := pos_strOf n1
    rw [hg, hd, fixed_same (by omega) (by omega) (by omega) (by omega) hs ha]
/-- near and monotone -/
theorem Tells.pw {N e : Int} {fig tail : List Nat} {M f r : Int} (h : Tells N e fig tail M f r) : M * pw f = scaled N (e - r) * pw r ∧ pw r ≤ pw f ∧ -100 ≤ r := by
  obtain ⟨_, _, _, _, _, hr, c, h1, h2⟩ := h
  refine ⟨?_, pw_le (by omega), hr⟩
  rw [h1, h2, pw_add (by omega) (by omega), Int.toNat_natCast, Int.mul_assoc, Int.mul_comm (10 ^ c)]
theorem Tells.near {N e : Int} {fig tail : List Nat} {M f r : Int} (h : Tells N e fig tail M f r) (he : -300 ≤ e) : 2 * (M * Mine.pw f - N * Mine.pw e) ≤ Mine.pw f ∧ 2 * (N * Mine.pw e - M * Mine.pw f) ≤ Mine.pw f := by
  obtain ⟨h1, h2, h3⟩ := h.pw
  have := scaled_pw (n := N) (e := e) (r := r) (by omega) he
  rw [h1]
  omega
theorem mono {kind : Nat} {N1 N2 e1 e2 places scale : Int} {b1 t1 b2 t2 : List Nat} {M1 f1 r1 M2 f2 r2 : Int} (hp : 1 ≤ places) (hp' : places ≤ 9) (hs : -places < scale) (hs' : scale ≤ places + 1)
    (he1 : -15 ≤ e1) (he2 : -15 ≤ e2) (hN1 : 0 ≤ N1) (hN2 : 0 ≤ N2) (hl1 : N1 ≤ 10 ^ 10) (hl2 : N2 ≤ 10 ^ 10)
    (T1 : Tells N1 (if kind = 0 then e1 + scale else e1) b1 t1 M1 f1 r1) (T2 : Tells N2 (if kind = 0 then e2 + scale else e2) b2 t2 M2 f2 r2)
    (a1 : kind = 0 → r1 = -places) (a2 : kind = 0 → r2 = -places)
    (c1 : kind ≠ 0 → 0 < N1 → r1 = ((strOf N1).length : Int) + e1 - cnt kind places scale (((strOf N1).length : Int) + e1))
    (c2 : kind ≠ 0 → 0 < N2 → r2 = ((strOf N2).length : Int) + e2 - cnt kind places scale (((strOf N2).length : Int) + e2))
    (h : N1 * pw e1 ≤ N2 * pw e2) : M1 * pw f1 ≤ M2 * pw f2 := by
  obtain ⟨p1, _, q1⟩ := T1.pw
  obtain ⟨p2, _, q2⟩ := T2.pw
  have o1 := pw_pos r1
  have o2 := pw_pos r2
  have hM2 : 0 ≤ M2 * pw f2 := Int.mul_nonneg T2.2.1 (Int.le_of_lt (pw_pos _))
  have same : r1 = r2 → M1 * pw f1 ≤ M2 * pw f2 := by
    intro hr
    rw [p1, p2, ← hr]
    refine Int.mul_le_mul_of_nonneg_right (scaled_mono (by omega) (by split <;> omega) (by split <;> omega) ?_) (Int.le_of_lt o1)
    by_cases k0 : kind = 0
    · rw [if_pos k0, if_pos k0]; exact (shift_le (by omega) (by omega) (by omega)).mp h
    · rw [if_neg k0, if_neg k0]; exact h
  by_cases k0 : kind = 0
  · exact same (by rw [a1 k0, a2 k0])
  · simp only [if_neg k0] at T1 T2 p1 p2
    by_cases hz : N1 = 0
    · subst hz
      have b : scaled 0 (e1 - r1) ≤ 0 := scaled_le (by omega) (by omega) (by omega)
      have := Int.mul_le_mul_of_nonneg_right b (Int.le_of_lt o1)
      rw [p1]
      omega
    · have hz2 : 0 < N2 := by
        by_cases g : N2 = 0
        · subst g
          have := Int.mul_pos (show 0 < N1 by omega) (pw_pos e1)
          omega
        · omega
      have d := decade_le (n := N1) (n2 := N2) (by omega) hz2 (e := e1) (e2 := e2) (by omega) (by omega) h
      have d1 := decade (n := N1) (by omega) (e := e1) (by omega)
      have d2 := decade hz2 (e := e2) (by omega)
      have g1 := c1 k0 (by omega)
      have g2 := c2 k0 hz2
      have l1 := pos_strOf hN1
      have l2 := pos_strOf hN2
      generalize ((strOf N1).length : Int) + e1 = D1 at *
      generalize ((strOf N2).length : Int) + e2 = D2 at *
      have cc : ∀ d, 1 ≤ cnt kind places scale d ∧ cnt kind places scale d ≤ 10 := by
        intro d; unfold cnt; split
        · omega
        · split <;> omega
      by_cases hd : D1 = D2
      · exact same (by rw [g1, g2, hd])
      · have cc1 := cc D1
        have cc2 := cc D2
        have u1 : scaled N1 (e1 - r1) ≤ 10 ^ (D1 - r1).toNat := scaled_le (by omega) (by omega) (by
          rw [Int.mul_comm (10 ^ _), ← pw_add (by omega) (by omega), show r1 + (D1 - r1) = D1 by omega]; exact Int.le_of_lt d1.2)
        have u2 : 10 ^ (D2 - 1 - r2).toNat ≤ scaled N2 (e2 - r2) := scaled_ge (by omega) (by omega) (by
          rw [Int.mul_comm (10 ^ _), ← pw_add (by omega) (by omega), show r2 + (D2 - 1 - r2) = D2 - 1 by omega]; exact d2.1)
        have w1 := Int.mul_le_mul_of_nonneg_right u1 (Int.le_of_lt o1)
        have w2 := Int.mul_le_mul_of_nonneg_right u2 (Int.le_of_lt o2)
        rw [Int.mul_comm (10 ^ _), ← pw_add (by omega) (by omega), show r1 + (D1 - r1) = D1 by omega] at w1
        rw [Int.mul_comm (10 ^ _), ← pw_add (by omega) (by omega), show r2 + (D2 - 1 - r2) = D2 - 1 by omega] at w2
        have := pw_le (show D1 ≤ D2 - 1 by omega)
        rw [p1, p2]
        omega
end
section
open PySem.NumText
/-- what the plain law says of the two texts (hidden from the walk in one structure) -/
structure TF (kind : Nat) (v1 e1 v2 e2 places k scale n1 f1 n2 f2 : Int) (lt : Str) (isF bE : Bool) : Prop where
  hR1 : ReadR (edit_real kind v1 e1 places k scale) n1 f1
  hR2 : ReadR (edit_real kind v2 e2 places k scale) n2 f2
  hn1 : -10 ^ 60 ≤ n1 ∧ n1 ≤ 10 ^ 60 ∧ -150 ≤ f1 ∧ f1 ≤ 150
  hn2 : -10 ^ 60 ≤ n2 ∧ n2 ≤ 10 ^ 60 ∧ -150 ≤ f2 ∧ f2 ≤ 150
  hF : (lt == Str.ofString "F") = isF
  hN1 : isF = true → is_near n1 f1 v1 (e1 + scale) = true
  hN1' : isF = false → is_near n1 f1 v1 e1 = true
  hN2 : isF = true → is_near n2 f2 v2 (e2 + scale) = true
  hN2' : isF = false → is_near n2 f2 v2 e2 = true
  hT1 : (Txt.strip (edit_real kind (if v1 < 0 then -v1 else v1) e1 places k scale) != Txt.strip (turned (edit_real kind v1 e1 places k scale))) = false
  hT2 : (Txt.strip (edit_real kind (if v2 < 0 then -v2 else v2) e2 places k scale) != Txt.strip (turned (edit_real kind v2 e2 places k scale))) = false
  hE : (edit_real kind v1 e1 places k scale == edit_real kind v2 e2 places k scale) = bE
  hO : lessD v1 e1 v2 e2 = 0 → bE = true
  hM : 0 ≤ lessD n1 f1 n2 f2 * lessD v1 e1 v2 e2
structure OneT (kind : Nat) (v e places k scale n f M r : Int) : Prop where
  hR : ReadR (edit_real kind v e places k scale) n f
  hn : -10 ^ 60 ≤ n ∧ n ≤ 10 ^ 60 ∧ -150 ≤ f ∧ f ≤ 150
  hT : (Txt.strip (edit_real kind (if v < 0 then -v else v) e places k scale) != Txt.strip (turned (edit_real kind v e places k scale))) = false
  hM : 0 ≤ M
  hs : n * pw f = if v < 0 then -(M * pw f) else M * pw f
  ht : ∃ b t, Tells (ab v) (if kind = 0 then e + scale else e) b t M f r
  h0 : kind = 0 → r = -places
  h1 : kind ≠ 0 → 0 < ab v → r = ((strOf (ab v)).length : Int) + e - cnt kind places scale (((strOf (ab v)).length : Int) + e)
theorem one_text {kind : Nat} {v e places k scale : Int} (hkd : kind ≤ 3) (hk : 2 ≤ k) (hk' : k ≤ 3) (hv : -10 ^ 10 ≤ v) (hv' : v ≤ 10 ^ 10) (he : -15 ≤ e) (he' : e ≤ 10)
    (hp : 1 ≤ places) (hp' : places ≤ 9) (hs : -places < scale) (hs' : scale ≤ places + 1) : ∃ n f M r, OneT kind v e places k scale n f M r := by
  have hN := ab_nonneg v
  have hN' : ab v ≤ 10 ^ 10 := by unfold ab; split <;> omega
  obtain ⟨body, tail, M, f, r, hT, g0, g1, hu⟩ := real_tells (kind := kind) (places := places) (k := k) (scale := scale) hkd hk hk' hN hN' he he' hp hp' hs hs'
  obtain ⟨neg, S, s1, s2⟩ := hu v rfl
  obtain ⟨neg', S', s1', _⟩ := hu (ab v) (ab_ab v)
  have hn' : neg' = false := by
    cases h : neg' with
    | false => rfl
    | true => have := s1' h; omega
  subst hn'
  have hT' := hT
  obtain ⟨⟨q, b, g, t1, t2, t3⟩, b0, b1, b2, b3, _⟩ := hT'
  refine ⟨(if neg = true then -1 else 1) * M, f, M, r, ⟨⟨⟨neg, body, tail, q, S.read, t1, ?_, by rw [t2], by rw [t2]; exact t3⟩⟩, ?_, ?_, b0, ?_, ⟨body, tail, hT⟩, g0, g1⟩⟩
  · intro h; rw [S.strip, h]; rfl
  · split <;> omega
  · have e1 : Txt.strip (edit_real kind (if v < 0 then -v else v) e places k scale) = Txt.strip (turned (edit_real kind v e places k scale)) := by
      refine str_of_cs ?_
      rw [show (if v < 0 then -v else v) = ab v from rfl, S'.strip, S.turn]
      simp
    rw [e1]
    simp
  · cases hneg : neg with
    | true =>
      have := s1 hneg
      rw [if_pos rfl, if_pos this, Int.mul_assoc]; omega
    | false =>
      rw [if_neg (by decide), Int.one_mul]
      rcases s2 hneg with h | h
      · rw [if_neg (by omega)]
      · rw [h]; simp
theorem OneT.near {kind : Nat} {v e places k scale n f M r : Int} (h : OneT kind v e places k scale n f M r) (he : -15 ≤ e) (hsc : -50 ≤ scale) : is_near n f v (if kind = 0 then e + scale else e) = true := by
  obtain ⟨b, t, hT⟩ := h.ht
  have h2 := hT.near (by split <;> omega)
  have hb := h.hn
  have hs := h.hs
  have ha := ab_pw v (if kind = 0 then e + scale else e)
  have hf : -300 ≤ f := by omega
  refine near_pw hf (by split <;> omega) ?_ ?_
  · rw [hs]
    rw [ha] at h2
    by_cases g : v < 0
    · simp only [if_pos g] at *; omega
    · simp only [if_neg g] at *; omega
  · rw [hs]
    rw [ha] at h2
    by_cases g : v < 0
    · simp only [if_pos g] at *; omega
    · simp only [if_neg g] at *; omega
theorem OneT.mono {kind : Nat} {v1 e1 v2 e2 places k scale n1 f1 M1 r1 n2 f2 M2 r2 : Int} (H1 : OneT kind v1 e1 places k scale n1 f1 M1 r1) (H2 : OneT kind v2 e2 places k scale n2 f2 M2 r2)
    (hv1 : -10 ^ 10 ≤ v1) (hv1' : v1 ≤ 10 ^ 10) (he1 : -15 ≤ e1) (hv2 : -10 ^ 10 ≤ v2) (hv2' : v2 ≤ 10 ^ 10) (he2 : -15 ≤ e2)
    (hp : 1 ≤ places) (hp' : places ≤ 9) (hs : -places < scale) (hs' : scale ≤ places + 1) (h : v1 * pw e1 ≤ v2 * pw e2) : n1 * pw f1 ≤ n2 * pw f2 := by
  obtain ⟨b1, t1, T1⟩ := H1.ht
  obtain ⟨b2, t2, T2⟩ := H2.ht
  have l1 : ab v1 ≤ 10 ^ 10 := by unfold ab; split <;> omega
  have l2 : ab v2 ≤ 10 ^ 10 := by unfold ab; split <;> omega
  have up := Mine.mono hp hp' hs hs' he1 he2 (ab_nonneg v1) (ab_nonneg v2) l1 l2 T1 T2 H1.h0 H2.h0 H1.h1 H2.h1
  have dn := Mine.mono hp hp' hs hs' he2 he1 (ab_nonneg v2) (ab_nonneg v1) l2 l1 T2 T1 H2.h0 H1.h0 H2.h1 H1.h1
  have p1 := Int.mul_nonneg H1.hM (Int.le_of_lt (pw_pos f1))
  have p2 := Int.mul_nonneg H2.hM (Int.le_of_lt (pw_pos f2))
  have s1 := mul_sign (v := v1) (e := e1)
  have s2 := mul_sign (v := v2) (e := e2)
  rw [H1.hs, H2.hs]
  rw [ab_pw v1, ab_pw v2] at up dn
  by_cases g1 : v1 < 0
  · by_cases g2 : v2 < 0
    · simp only [if_pos g1, if_pos g2] at *
      have := dn (by omega); omega
    · simp only [if_pos g1, if_neg g2] at *; omega
  · by_cases g2 : v2 < 0
    · have := s2.mp g2
      exact absurd (s1.mpr (by omega)) g1
    · simp only [if_neg g1, if_neg g2] at *
      exact up h
theorem make_TF {kind : Nat} {v1 e1 v2 e2 places k scale : Int} {lt : Str} (hkd : kind ≤ 3) (hlt : (lt == Str.ofString "F") = decide (kind = 0)) (hk : 2 ≤ k) (hk' : k ≤ 3)
    (hv1 : -10 ^ 10 ≤ v1) (hv1' : v1 ≤ 10 ^ 10) (he1 : -15 ≤ e1) (he1' : e1 ≤ 10) (hv2 : -10 ^ 10 ≤ v2) (hv2' : v2 ≤ 10 ^ 10) (he2 : -15 ≤ e2) (he2' : e2 ≤ 10)
    (hp : 1 ≤ places) (hp' : places ≤ 9) (hs : -places < scale) (hs' : scale ≤ places + 1) : ∃ n1 f1 n2 f2 isF bE, TF kind v1 e1 v2 e2 places k scale n1 f1 n2 f2 lt isF bE := by
  obtain ⟨n1, f1, M1, r1, H1⟩ := one_text (kind := kind) (scale := scale) hkd hk hk' hv1 hv1' he1 he1' hp hp' hs hs'
  obtain ⟨n2, f2, M2, r2, H2⟩ := one_text (kind := kind) (scale := scale) hkd hk hk' hv2 hv2' he2 he2' hp hp' hs hs'
  have c1 := H1.near he1 (by omega)
  have c2 := H2.near he2 (by omega)
  have b1 := H1.hn
  have b2 := H2.hn
  refine ⟨n1, f1, n2, f2, _, _, ⟨H1.hR, H2.hR, H1.hn, H2.hn, hlt, fun h => ?_, fun h => ?_, fun h => ?_, fun h => ?_, H1.hT, H2.hT, rfl, fun h => ?_, ?_⟩⟩
  · rwa [if_pos (of_decide_eq_true h)] at c1
  · rwa [if_neg (of_decide_eq_false h)] at c1
  · rwa [if_pos (of_decide_eq_true h)] at c2
  · rwa [if_neg (of_decide_eq_false h)] at c2
  · have hl := less_le (v := v1) (e := e1) (v2 := v2) (e2 := e2) (by omega) (by omega)
    rw [real_same he1 he2 he1' he2' hp hp' hs (Int.le_antisymm (hl.2.mp (by omega)) (hl.1.mp (by omega)))]
    simp
  · have hl := less_le (v := v1) (e := e1) (v2 := v2) (e2 := e2) (by omega) (by omega)
    have hm := less_le (v := n1) (e := f1) (v2 := n2) (e2 := f2) (by omega) (by omega)
    by_cases g : 0 ≤ lessD v1 e1 v2 e2
    · exact Int.mul_nonneg (hm.1.mpr (OneT.mono H2 H1 hv2 hv2' he2 hv1 hv1' he1 hp hp' hs hs' (hl.1.mp g))) g
    · have g' : lessD v1 e1 v2 e2 ≤ 0 := by omega
      have := hm.2.mpr (OneT.mono H1 H2 hv1 hv1' he1 hv2 hv2' he2 hp hp' hs hs' (hl.2.mp g'))
      exact Int.mul_nonneg_of_nonpos_of_nonpos this g'
end
section
theorem reg_28 : True := by
  k_with_none
  (k_with "m_mem" => first | assumption | exact List.Mem.head _ | (refine' List.Mem.tail _ ?_; k_extra "m_mem"))
  (k_with "m_kmem" => assumption)
  (k_with "m_fill" => ((have mfill : PySem.Challenge.rw_no0231_01 = PySem.Challenge.rw_no0231_01 ∧ _root_.Mine.hd.heap_39 = _root_.Mine.hd.heap_39 := by (k_fill; exact ⟨rfl, rfl⟩)); clear mfill))
  (k_with "m_start" => (k_extra "m_fill"; unfold Spec; intros; refine wpAny_call ?_; k_dflt cell_enter))
  (k_with "m_news" => first | with_reducible assumption | (refine cb_drop (by with_reducible assumption) (fun p hp => .tail _ hp)) | (refine cb_drop (by with_reducible assumption) (fun p hp => .tail _ (.tail _ hp))) | (refine cb_drop (by with_reducible assumption) (fun p hp => .tail _ (.tail _ (.tail _ hp)))) | k_asm)
  (k_with "m_ifs" => (repeat' split) <;> first | rfl | (exfalso; first | contradiction | omega | simp_all))
  (k_with "m_after" => (intro t h' tk' ef F9 N9; (try dsimp only); (try k_fold)))
  (k_with "m_afterT" => (intro t ta tb h' tk' ef F9 N9 l1; (try k_lt l1); (try dsimp only); (try k_sweep); (try k_fold)))
  (k_with "m_len" => first | assumption | omega | ((try simp only [Str.length_append, lenA, lenB, lenC, lenD, lenE, lenF, lenG, lenH] at *); omega) | size_fits | l_fact)
  (k_with "call_field" => ((with_reducible show wpAny _ _ (call (Value.ref 60) _) _ _ _); k_dflt (refine' Spec.useV (field_spec _ _ _ _ _ ?q11h1 ?q11h2 ?q11h3) ?q11B ?q11F ?q11X ?q11N ?q11T ?q11k ?q11d ?q11u ?_; (case q11B => k_asm); (case q11F => k_asm); (case q11X => k_asm); (case q11N => k_asm); (case q11T => k_asm); (case q11k => first | exact rfl | assumption); (case q11d => ktr_room); (case q11u => ktr_units); (case q11h1 => k_extra "m_len"); (case q11h2 => k_extra "m_len"); (case q11h3 => k_extra "m_len"); k_extra "m_after")))
  (k_with "call_scaled" => ((with_reducible show wpAny _ _ (call (Value.ref 74) _) _ _ _); k_dflt (refine' Spec.useV (scaled_spec _ _ _ _ _ ?q13h1 ?q13h2 ?q13h3 ?q13h4) ?q13B ?q13F ?q13X ?q13N ?q13T ?q13k ?q13d ?q13u ?_; (case q13B => k_asm); (case q13F => k_asm); (case q13X => k_asm); (case q13N => k_asm); (case q13T => k_asm); (case q13k => first | exact rfl | assumption); (case q13d => ktr_room); (case q13u => ktr_units); (case q13h1 => k_extra "m_len"); (case q13h2 => k_extra "m_len"); (case q13h3 => k_extra "m_len"); (case q13h4 => k_extra "m_len"); k_extra "m_after")))
  (k_with "call_sign" => ((with_reducible show wpAny _ _ (call (Value.ref 67) _) _ _ _); k_dflt (refine' Spec.useV (sign_spec _ _ _) ?q14B ?q14F ?q14X ?q14N ?q14T ?q14k ?q14d ?q14u ?_; (case q14B => k_asm); (case q14F => k_asm); (case q14X => k_asm); (case q14N => k_asm); (case q14T => k_asm); (case q14k => first | exact rfl | assumption); (case q14d => ktr_room); (case q14u => ktr_units); k_extra "m_after")))
  (k_with "call_point" => ((with_reducible show wpAny _ _ (call (Value.ref 81) _) _ _ _); k_dflt (refine' Spec.useV (point_spec _ _ _ _ _ _ _ _ _ ?q15h1 ?q15h2 ?q15h3 ?q15h4 ?q15h5) ?q15B ?q15F ?q15X ?q15N ?q15T ?q15k ?q15d ?q15u ?_; (case q15B => k_asm); (case q15F => k_asm); (case q15X => k_asm); (case q15N => k_asm); (case q15T => k_asm); (case q15k => first | exact rfl | assumption); (case q15d => ktr_room); (case q15u => ktr_units); (case q15h1 => k_extra "m_len"); (case q15h2 => k_extra "m_len"); (case q15h3 => k_extra "m_len"); (case q15h4 => k_extra "m_len"); (case q15h5 => k_extra "m_len"); k_extra "m_after")))
  (k_with "call_str" => ((with_reducible show wpAny _ _ (call (Value.type "str") [Value.int _ _]) _ _ _); refine str_int ?q16h1 ?q16h2 ?_; (case q16h1 => k_extra "m_len"); (case q16h2 => k_extra "m_len"); intro ef; (try dsimp only); (try k_fold)))
  (k_with "call_fixed" => ((with_reducible show wpAny _ _ (call (Value.ref 88) _) _ _ _); k_dflt (refine' Spec.useV (edit_fixed_spec _ _ _ _ _ _ _ _ _ _ _ _ _ ?q21hm ?q21h1 ?q21h2 ?q21h3 ?q21h4 ?q21h5 ?q21h6 ?q21h7 ?q21h8 ?q21h9 ?q21h10) ?q21B ?q21F ?q21X ?q21N ?q21T ?q21k ?q21d ?q21u ?_; (case q21B => k_asm); (case q21F => k_asm); (case q21X => k_asm); (case q21N => k_asm); (case q21T => k_asm); (case q21k => first | exact rfl | assumption); (case q21d => ktr_room); (case q21u => ktr_units); (case q21hm => k_extra "m_mem"); (case q21h1 => k_extra "m_len"); (case q21h2 => k_extra "m_len"); (case q21h3 => k_extra "m_len"); (case q21h4 => k_extra "m_len"); (case q21h5 => k_extra "m_len"); (case q21h6 => k_extra "m_len"); (case q21h7 => k_extra "m_len"); (case q21h8 => k_extra "m_len"); (case q21h9 => k_extra "m_len"); (case q21h10 => k_extra "m_len"); k_extra "m_after")))
  (k_with "call_lead" => ((with_reducible show wpAny _ _ (call (Value.ref 95) _) _ _ _); k_dflt (refine' Spec.useT (leading_spec _ _ _ _ _ _ _ _ ?q25hm ?q25h1 ?q25h2 ?q25h3 ?q25h4 ?q25h5 ?q25h6) ?q25B ?q25F ?q25X ?q25N ?q25T ?q25k ?q25d ?q25u ?_; (case q25B => k_asm); (case q25F => k_asm); (case q25X => k_asm); (case q25N => k_asm); (case q25T => k_asm); (case q25k => first | exact rfl | assumption); (case q25d => ktr_room); (case q25u => ktr_units); (case q25hm => k_extra "m_mem"); (case q25h1 => k_extra "m_len"); (case q25h2 => k_extra "m_len"); (case q25h3 => k_extra "m_len"); (case q25h4 => k_extra "m_len"); (case q25h5 => k_extra "m_len"); (case q25h6 => k_extra "m_len"); k_extra "m_afterT")))
  (k_with "call_exponent" => ((with_reducible show wpAny _ _ (call (Value.ref 102) _) _ _ _); k_dflt (refine' Spec.useV (exponent_spec _ _ _ _ _ _ _ ?q26h1 ?q26h2 ?q26h3 ?q26h4) ?q26B ?q26F ?q26X ?q26N ?q26T ?q26k ?q26d ?q26u ?_; (case q26B => k_asm); (case q26F => k_asm); (case q26X => k_asm); (case q26N => k_asm); (case q26T => k_asm); (case q26k => first | exact rfl | assumption); (case q26d => ktr_room); (case q26u => ktr_units); (case q26h4 => k_asm); (case q26h1 => k_extra "m_len"); (case q26h2 => k_extra "m_len"); (case q26h3 => k_extra "m_len"); k_extra "m_after")))
  (k_with "call_exp" => ((with_reducible show wpAny _ _ (call (Value.ref 109) _) _ _ _); k_dflt (refine' Spec.useV (edit_exp_spec _ _ _ _ _ _ _ _ _ _ _ _ _ _ _ _ _ ?q31hm ?q31h1 ?q31h2 ?q31h3 ?q31h4 ?q31h5 ?q31h6 ?q31h7 ?q31h8 ?q31h9 ?q31hz ?q31h10 ?q31h11) ?q31B ?q31F ?q31X ?q31N ?q31T ?q31k ?q31d ?q31u ?_; (case q31B => k_asm); (case q31F => k_asm); (case q31X => k_asm); (case q31N => k_asm); (case q31T => k_asm); (case q31k => first | exact rfl | assumption); (case q31d => ktr_room); (case q31u => ktr_units); (case q31hm => k_extra "m_mem"); (case q31hz => k_asm); (case q31h1 => k_extra "m_len"); (case q31h2 => k_extra "m_len"); (case q31h3 => k_extra "m_len"); (case q31h4 => k_extra "m_len"); (case q31h5 => k_extra "m_len"); (case q31h6 => k_extra "m_len"); (case q31h7 => k_extra "m_len"); (case q31h8 => k_extra "m_len"); (case q31h9 => k_extra "m_len"); (case q31h10 => k_extra "m_len"); (case q31h11 => k_extra "m_len"); k_extra "m_after")))
  (k_with "call_isgen" => ((with_reducible show wpAny _ _ (call (Value.ref 116) _) _ _ _); k_dflt (refine' Spec.useV (is_general_spec _ _ _ _ _ _ _ _ ?q33hm ?q33h1 ?q33h2 ?q33h3 ?q33h4 ?q33h5 ?q33h6) ?q33B ?q33F ?q33X ?q33N ?q33T ?q33k ?q33d ?q33u ?_; (case q33B => k_asm); (case q33F => k_asm); (case q33X => k_asm); (case q33N => k_asm); (case q33T => k_asm); (case q33k => first | exact rfl | assumption); (case q33d => ktr_room); (case q33u => ktr_units); (case q33hm => k_extra "m_mem"); (case q33h1 => k_extra "m_len"); (case q33h2 => k_extra "m_len"); (case q33h3 => k_extra "m_len"); (case q33h4 => k_extra "m_len"); (case q33h5 => k_extra "m_len"); (case q33h6 => k_extra "m_len"); k_extra "m_after")))
  (k_with "call_general" => ((with_reducible show wpAny _ _ (call (Value.ref 123) _) _ _ _); k_dflt (refine' Spec.useV (edit_general_spec _ _ _ _ _ _ _ _ _ _ _ _ _ _ _ ?q40hm ?q40h1 ?q40h2 ?q40h3 ?q40h4 ?q40h5 ?q40h6 ?q40h7 ?q40h8 ?q40hz ?q40h9 ?q40h10) ?q40B ?q40F ?q40X ?q40N ?q40T ?q40k ?q40d ?q40u ?_; (case q40B => k_asm); (case q40F => k_asm); (case q40X => k_asm); (case q40N => k_asm); (case q40T => k_asm); (case q40k => first | exact rfl | assumption); (case q40d => ktr_room); (case q40u => ktr_units); (case q40hm => k_extra "m_mem"); (case q40hz => k_asm); (case q40h1 => k_extra "m_len"); (case q40h2 => k_extra "m_len"); (case q40h3 => k_extra "m_len"); (case q40h4 => k_extra "m_len"); (case q40h5 => k_extra "m_len"); (case q40h6 => k_extra "m_len"); (case q40h7 => k_extra "m_len"); (case q40h8 => k_extra "m_len"); (case q40h9 => k_extra "m_len"); (case q40h10 => k_extra "m_len"); k_extra "m_after")))
  (k_with "call_real" => ((with_reducible show wpAny _ _ (call (Value.ref 130) _) _ _ _); k_dflt (refine' Spec.useV (edit_real_spec _ _ _ _ _ _ _ _ _ _ _ _ _ ?q44hm ?q44hi ?q44hr ?q44hk ?q44h1 ?q44h2 ?q44h3 ?q44h4 ?q44h5 ?q44h6 ?q44h7 ?q44h8) ?q44B ?q44F ?q44X ?q44N ?q44T ?q44k ?q44d ?q44u ?_; (case q44B => k_asm); (case q44F => k_asm); (case q44X => k_asm); (case q44N => k_asm); (case q44T => k_asm); (case q44k => first | exact rfl | assumption); (case q44d => ktr_room); (case q44u => ktr_units); (case q44hm => k_extra "m_mem"); (case q44hr => assumption); (case q44hi => k_extra "m_mem"); (case q44hk => k_asm); (case q44h1 => k_extra "m_len"); (case q44h2 => k_extra "m_len"); (case q44h3 => k_extra "m_len"); (case q44h4 => k_extra "m_len"); (case q44h5 => k_extra "m_len"); (case q44h6 => k_extra "m_len"); (case q44h7 => k_extra "m_len"); (case q44h8 => k_extra "m_len"); k_extra "m_after")))
  (k_with "call_less" => ((with_reducible show wpAny _ _ (call (Value.ref 158) _) _ _ _); k_dflt (refine' Spec.useT (less_spec _ _ _ _ _ _ _ _ _ _ _ ?q47hm ?q47hm2 ?q47h1 ?q47h2 ?q47h3 ?q47h4 ?q47h5 ?q47h6 ?q47h7 ?q47h8) ?q47B ?q47F ?q47X ?q47N ?q47T ?q47k ?q47d ?q47u ?_; (case q47B => k_asm); (case q47F => k_asm); (case q47X => k_asm); (case q47N => k_asm); (case q47T => k_asm); (case q47k => first | exact rfl | assumption); (case q47d => ktr_room); (case q47u => ktr_units); (case q47hm => k_extra "m_mem"); (case q47hm2 => k_extra "m_mem"); (case q47h1 => k_extra "m_len"); (case q47h2 => k_extra "m_len"); (case q47h3 => k_extra "m_len"); (case q47h4 => k_extra "m_len"); (case q47h5 => k_extra "m_len"); (case q47h6 => k_extra "m_len"); (case q47h7 => k_extra "m_len"); (case q47h8 => k_extra "m_len"); k_extra "m_afterT")))
  (k_with "call_near" => ((with_reducible show wpAny _ _ (call (Value.ref 165) _) _ _ _); k_dflt (refine' Spec.useV (near_spec _ _ _ _ _ _ _ _ _ _ _ ?q51hm ?q51hm2 ?q51h1 ?q51h2 ?q51h3 ?q51h4 ?q51h5 ?q51h6 ?q51h7 ?q51h8) ?q51B ?q51F ?q51X ?q51N ?q51T ?q51k ?q51d ?q51u ?_; (case q51B => k_asm); (case q51F => k_asm); (case q51X => k_asm); (case q51N => k_asm); (case q51T => k_asm); (case q51k => first | exact rfl | assumption); (case q51d => ktr_room); (case q51u => ktr_units); (case q51hm => k_extra "m_mem"); (case q51hm2 => k_extra "m_mem"); (case q51h1 => k_extra "m_len"); (case q51h2 => k_extra "m_len"); (case q51h3 => k_extra "m_len"); (case q51h4 => k_extra "m_len"); (case q51h5 => k_extra "m_len"); (case q51h6 => k_extra "m_len"); (case q51h7 => k_extra "m_len"); (case q51h8 => k_extra "m_len"); k_extra "m_after")))
  (k_with "call_turned" => ((with_reducible show wpAny _ _ (call (Value.ref 172) _) _ _ _); k_dflt (refine' Spec.useV (turned_spec _ _ _ ?q52h1 ?q52h2) ?q52B ?q52F ?q52X ?q52N ?q52T ?q52k ?q52d ?q52u ?_; (case q52B => k_asm); (case q52F => k_asm); (case q52X => k_asm); (case q52N => k_asm); (case q52T => k_asm); (case q52k => first | exact rfl | assumption); (case q52d => ktr_room); (case q52u => ktr_units); (case q52h1 => k_extra "m_len"); (case q52h2 => k_extra "m_len"); k_extra "m_after")))
  (k_with "call_draw" => ((with_reducible show wpAny _ _ (call (Value.ref 137) _) _ _ _); k_dflt (refine' Spec.use (draw_spec _ _ _ _ _ _ _ _ _ _ ?q55hm ?q55hi ?q55hn ?q55h1 ?q55h2 ?q55h3 ?q55h4 ?q55h5) ?q55B ?q55F ?q55X ?q55N ?q55T ?q55k ?q55d ?q55u ?_; (case q55B => k_asm); (case q55F => k_asm); (case q55X => k_asm); (case q55N => first | k_asm | exact news_swap (by k_asm)); (case q55T => k_asm); (case q55k => first | exact rfl | assumption); (case q55d => ktr_room); (case q55u => ktr_units); (case q55hm => k_mem); (case q55hi => assumption); (case q55hn => first | assumption | k_all); (case q55h1 => k_extra "m_len"); (case q55h2 => k_extra "m_len"); (case q55h3 => k_extra "m_len"); (case q55h4 => k_extra "m_len"); (case q55h5 => k_extra "m_len"); intro v nw h' tk' hP F9 N9; obtain ⟨t', tv, e1, e2, ef1, ef2⟩ := hP; subst e1; subst e2; (try dsimp only); (try k_sweep); (try k_fold))))
  (k_with "call_lreal" => ((with_reducible show wpAny _ _ (call (Value.ref 144) _) _ _ _); k_dflt (refine' Spec.use (real_spec _ _ _ _ _ _ _ _ ?q57hm ?q57hi ?q57hn ?q57h1 ?q57h2 ?q57h3) ?q57B ?q57F ?q57X ?q57N ?q57T ?q57k ?q57d ?q57u ?_; (case q57B => k_asm); (case q57F => k_asm); (case q57X => k_asm); (case q57N => first | k_asm | exact news_swap (by k_asm)); (case q57T => k_asm); (case q57k => first | exact rfl | assumption); (case q57d => ktr_room); (case q57u => ktr_units); (case q57hm => k_mem); (case q57hi => assumption); (case q57hn => first | assumption | k_all); (case q57h1 => k_extra "m_len"); (case q57h2 => k_extra "m_len"); (case q57h3 => k_extra "m_len"); intro v nw h' tk' hP F9 N9; obtain ⟨tt, t', ta, tb, e1, e2, ef, l1, l2⟩ := hP; subst e1; subst e2; (try k_lt2 l1); (try k_lt l2); (try dsimp only); (try k_sweep); (try k_fold))))
  exact True.intro
noncomputable def lawStmt : Stmt := (PySem.Challenge.pw_no0231_01.main.body.getLast?).getD default
noncomputable def lawBody : List Stmt := match lawStmt with
  | .FunctionDef _ _ b _ _ _ _ _ _ _ => b
  | _ => []
noncomputable def lawScope : Scope := match lawStmt with
  | .FunctionDef _ _ _ _ _ _ sc _ _ _ => sc
  | _ => default
theorem near_true {w : World} (news : Led) (a b : Addr) (v e v2 e2 : Int) (t1 t2 t3 t4 : Tok) (hm : (a, tup [.int v t1, .int e t2]) ∈ news) (hm2 : (b, tup [.int v2 t3, .int e2 t4]) ∈ news)
    (hv : -10 ^ 70 ≤ v) (hv' : v ≤ 10 ^ 70) (he : -200 ≤ e) (he' : e ≤ 200) (hw : -10 ^ 70 ≤ v2) (hw' : v2 ≤ 10 ^ 70) (hf : -200 ≤ e2) (hf' : e2 ≤ 200) (h : is_near v e v2 e2 = true) :
    Spec w 2 165 news [.ref a, .ref b] (PB news true True) := by
  have := near_spec (w := w) news a b v e v2 e2 t1 t2 t3 t4 hm hm2 hv hv' he he' hw hw' hf hf'
  rw [h] at this
  exact this
theorem tup_fst {prog : Program} {w : World} {A : Around} {E : Value → Shared → Prop} {s : Shared} {value slice : PySem.Expr} {h₀ : Heap} {L l : Addr} {news : Led} {x y : Value} {u : Tok} {Q : Value → Shared → Prop}
    (N : News h₀ L s.heap news) (hm : (l, tup [x, y]) ∈ news) (h : Q x s)
    (hs : subscripted slice false (.ref l) (.int 0 u) = operate [.ref l, .int 0 u] (getItem (.ref l) (.int 0 u)) := by with_unfolding_all rfl) :
    wpAny (model prog w) A (subscriptTail value slice (.ref l) (.int 0 u)) Q E s :=
  item_tupleT (l := [x, y]) (j := 0) (News.isTup N hm) (by decide) (by decide) rfl rfl h hs
theorem tup_snd {prog : Program} {w : World} {A : Around} {E : Value → Shared → Prop} {s : Shared} {value slice : PySem.Expr} {h₀ : Heap} {L l : Addr} {news : Led} {x y : Value} {u : Tok} {Q : Value → Shared → Prop}
    (N : News h₀ L s.heap news) (hm : (l, tup [x, y]) ∈ news) (h : Q y s)
    (hs : subscripted slice false (.ref l) (.int 1 u) = operate [.ref l, .int 1 u] (getItem (.ref l) (.int 1 u)) := by with_unfolding_all rfl) :
    wpAny (model prog w) A (subscriptTail value slice (.ref l) (.int 1 u)) Q E s :=
  item_tupleT (l := [x, y]) (j := 1) (News.isTup N hm) (by decide) (by decide) rfl rfl h hs
theorem lst_fst {prog : Program} {w : World} {A : Around} {E : Value → Shared → Prop} {s : Shared} {value slice : PySem.Expr} {h₀ : Heap} {L l : Addr} {news : Led} {x y : Value} {u : Tok} {Q : Value → Shared → Prop}
    (N : News h₀ L s.heap news) (hm : (l, LCg.lst [x, y]) ∈ news) (h : Q x s)
    (hs : subscripted slice false (.ref l) (.int 0 u) = operate [.ref l, .int 0 u] (getItem (.ref l) (.int 0 u)) := by with_unfolding_all rfl) :
    wpAny (model prog w) A (subscriptTail value slice (.ref l) (.int 0 u)) Q E s :=
  tail_any (News.isList N hm).typeIs slot_list_getitem.lookup (wpAny_getItem_list (News.isList N hm) (by decide) (by decide) rfl h) hs
theorem lst_snd {prog : Program} {w : World} {A : Around} {E : Value → Shared → Prop} {s : Shared} {value slice : PySem.Expr} {h₀ : Heap} {L l : Addr} {news : Led} {x y : Value} {u : Tok} {Q : Value → Shared → Prop}
    (N : News h₀ L s.heap news) (hm : (l, LCg.lst [x, y]) ∈ news) (h : Q y s)
    (hs : subscripted slice false (.ref l) (.int 1 u) = operate [.ref l, .int 1 u] (getItem (.ref l) (.int 1 u)) := by with_unfolding_all rfl) :
    wpAny (model prog w) A (subscriptTail value slice (.ref l) (.int 1 u)) Q E s :=
  tail_any (News.isList N hm).typeIs slot_list_getitem.lookup (wpAny_getItem_list (News.isList N hm) (by decide) (by decide) rfl h) hs
/-- the ledger ahead of the loop lies below the loop's own objects -/
structure OffZ (i : Nat) (n : Led) : Prop where
  h : AllLt i n
theorem off_zip {i : Nat} {o5 o3 o4 o0 o1 o2 : Obj} {n : Led} (H : OffZ i n) : ∀ p ∈ n, ∀ q ∈ ([(i + 5, o5), (i + 3, o3), (i + 4, o4), (i, o0), (i + 1, o1), (i + 2, o2)] : Led), p.1 ≠ q.1 := by
  intro p hp q hq
  have h1 := of_allLt H.h p hp
  have h2 : ∃ k : Nat, q.1 = i + k := by
    simp only [List.mem_cons, List.not_mem_nil, or_false] at hq
    rcases hq with rfl | rfl | rfl | rfl | rfl | rfl
    · exact ⟨5, rfl⟩
    · exact ⟨3, rfl⟩
    · exact ⟨4, rfl⟩
    · exact ⟨0, rfl⟩
    · exact ⟨1, rfl⟩
    · exact ⟨2, rfl⟩
  obtain ⟨k, e⟩ := h2
  rw [e]
  exact Nat.ne_of_lt (Nat.lt_of_lt_of_le h1 (Nat.le_add_right _ _))
section
variable {h₀ : Heap} {L : Addr} {rest : (Str → Option Value) → Led → Prop} {s₁ : Shared} {h' : Heap} {tk : Nat} {m' : Str → Option Value} {i : Nat} {n : Led} {o5 o3 o4 o0 o1 o2 : Obj} {a b : Addr × Obj}
theorem end1 (hz : OffZ i n) (F : Fr h₀ L h' m') (N : News h₀ L h' (a :: (i + 5, o5) :: (i + 3, o3) :: (i + 4, o4) :: (i, o0) :: (i + 1, o1) :: (i + 2, o2) :: n)) (r : rest m' n) : UnrEndW h₀ L s₁ [(i + 5, o5), (i + 3, o3), (i + 4, o4), (i, o0), (i + 1, o1), (i + 2, o2)] rest { s₁ with heap := h', toks := tk } :=
  ⟨h', tk, m', n, rfl, F, fun p hp => N p (.tail _ hp), off_zip hz, r⟩
theorem end2 (hz : OffZ i n) (F : Fr h₀ L h' m') (N : News h₀ L h' (a :: b :: (i + 5, o5) :: (i + 3, o3) :: (i + 4, o4) :: (i, o0) :: (i + 1, o1) :: (i + 2, o2) :: n)) (r : rest m' n) : UnrEndW h₀ L s₁ [(i + 5, o5), (i + 3, o3), (i + 4, o4), (i, o0), (i + 1, o1), (i + 2, o2)] rest { s₁ with heap := h', toks := tk } :=
  ⟨h', tk, m', n, rfl, F, fun p hp => N p (.tail _ (.tail _ hp)), off_zip hz, r⟩
end
theorem end_true {b : Bool} {Q : Flow → Shared → Prop} {s : Shared} (h : b = true) (hq : Q (.ret (.bool true)) s) : Q (.ret (.bool b)) s := by rw [h]; exact hq
theorem ne_int_b {prog : Program} {w : World} {A : Around} {E : Value → Shared → Prop} {s : Shared} {x y : Int} {t u : Tok} {b : Bool} {Q : Value → Shared → Prop} (h : (x != y) = b) (hq : Q (.bool b) s) :
    wpAny (model prog w) A (compareOp .NotEq (.int x t) (.int y u)) Q E s := ne_int (by rw [h]; exact hq)
theorem len_ne {x : Str} (h : (x.length : Int) = 44) : ((x.length : Int) != 44) = false := by rw [h]; rfl
noncomputable def turnBody : List Stmt := match lawBody.drop 12 with
  | .For _ _ b _ _ :: _ => b
  | _ => []
/-- what one turn of the law's loop leans on -/
structure TT (kind : Nat) (v e places k scale n f : Int) (lt : Str) (isF : Bool) : Prop where
  hR : ReadR (edit_real kind v e places k scale) n f
  hn : -10 ^ 60 ≤ n ∧ n ≤ 10 ^ 60 ∧ -150 ≤ f ∧ f ≤ 150
  hF : (lt == Str.ofString "F") = isF
  hN : isF = true → is_near n f v (e + scale) = true
  hN' : isF = false → is_near n f v e = true
  hT : (Txt.strip (edit_real kind (if v < 0 then -v else v) e places k scale) != Txt.strip (turned (edit_real kind v e places k scale))) = false
theorem TF.t1 {kind : Nat} {v1 e1 v2 e2 places k scale n1 f1 n2 f2 : Int} {lt : Str} {isF bE : Bool} (H : TF kind v1 e1 v2 e2 places k scale n1 f1 n2 f2 lt isF bE) : TT kind v1 e1 places k scale n1 f1 lt isF :=
  ⟨H.hR1, H.hn1, H.hF, H.hN1, H.hN1', H.hT1⟩
theorem TF.t2 {kind : Nat} {v1 e1 v2 e2 places k scale n1 f1 n2 f2 : Int} {lt : Str} {isF bE : Bool} (H : TF kind v1 e1 v2 e2 places k scale n1 f1 n2 f2 lt isF bE) : TT kind v2 e2 places k scale n2 f2 lt isF :=
  ⟨H.hR2, H.hn2, H.hF, H.hN2, H.hN2', H.hT2⟩
/-- the locals of a turn, ahead of what the call had before -/
abbrev turnMap (text : Str) (tt : Tok) (tv xv : Addr) (lt : Str) (tl : Tok) (m : Str → Option Value) : Str → Option Value := fun y =>
  if y = Str.ofString "text" then some (.str text tt) else if y = Str.ofString "told" then some (.ref tv) else if y = Str.ofString "value" then some (.ref xv) else if y = Str.ofString "letter" then some (.str lt tl) else m y
theorem turn_shape {h₀ h : Heap} {L : Addr} {text : Str} {tt : Tok} {tv xv : Addr} {lt : Str} {tl : Tok} {m : Str → Option Value} (F : Fr h₀ L h m)
    (a : m (Str.ofString "text") = some (.str text tt)) (b : m (Str.ofString "told") = some (.ref tv)) (c : m (Str.ofString "value") = some (.ref xv)) (d : m (Str.ofString "letter") = some (.str lt tl)) :
    Fr h₀ L h (turnMap text tt tv xv lt tl m) := by
  have : turnMap text tt tv xv lt tl m = m := by
    funext y
    unfold turnMap
    split
    · rename_i h; rw [h, a]
    · split
      · rename_i h; rw [h, b]
      · split
        · rename_i h; rw [h, c]
        · split
          · rename_i h; rw [h, d]
          · rfl
  rw [this]; exact F
/-- the locals behind a turn's first statement -/
theorem turn_back {h₀ h : Heap} {L d : Addr} {text : Str} {tt : Tok} {tv xv : Addr} {lt : Str} {tl : Tok} {m : Str → Option Value}
    (a : m (Str.ofString "text") = some (.str text tt)) (b : m (Str.ofString "told") = some (.ref tv)) (c : m (Str.ofString "value") = some (.ref xv)) (e : m (Str.ofString "letter") = some (.str lt tl))
    (F : Fr h₀ L h (fun y => if y = Str.ofString "due" then some (.ref d) else turnMap text tt tv xv lt tl m y)) :
    Fr h₀ L h (fun y => if y = Str.ofString "due" then some (.ref d) else m y) := by
  have : turnMap text tt tv xv lt tl m = m := by
    funext y
    unfold turnMap
    split
    · rename_i h; rw [h, a]
    · split
      · rename_i h; rw [h, b]
      · split
        · rename_i h; rw [h, c]
        · split
          · rename_i h; rw [h, e]
          · rfl
  rw [this] at F; exact F
end
section
section
/-- what a turn ends in: the locals with «due», the ledger as it was -/
theorem reg_29 : True := by
  k_with_none
  (k_with "m_mem" => first | assumption | exact List.Mem.head _ | (refine' List.Mem.tail _ ?_; k_extra "m_mem"))
  (k_with "m_kmem" => assumption)
  (k_with "m_fill" => ((have mfill : PySem.Challenge.rw_no0231_01 = PySem.Challenge.rw_no0231_01 ∧ _root_.Mine.hd.heap_39 = _root_.Mine.hd.heap_39 := by (k_fill; exact ⟨rfl, rfl⟩)); clear mfill))
  (k_with "m_start" => (k_extra "m_fill"; unfold Spec; intros; refine wpAny_call ?_; k_dflt cell_enter))
  (k_with "m_news" => first | with_reducible assumption | (refine cb_drop (by with_reducible assumption) (fun p hp => .tail _ hp)) | (refine cb_drop (by with_reducible assumption) (fun p hp => .tail _ (.tail _ hp))) | (refine cb_drop (by with_reducible assumption) (fun p hp => .tail _ (.tail _ (.tail _ hp)))) | k_asm)
  (k_with "m_ifs" => (repeat' split) <;> first | rfl | (exfalso; first | contradiction | omega | simp_all))
  (k_with "m_after" => (intro t h' tk' ef F9 N9; (try dsimp only); (try k_fold)))
  (k_with "m_afterT" => (intro t ta tb h' tk' ef F9 N9 l1; (try k_lt l1); (try dsimp only); (try k_sweep); (try k_fold)))
  (k_with "m_len" => first | assumption | omega | ((try simp only [Str.length_append, lenA, lenB, lenC, lenD, lenE, lenF, lenG, lenH] at *); omega) | size_fits | l_fact)
  (k_with "call_field" => ((with_reducible show wpAny _ _ (call (Value.ref 60) _) _ _ _); k_dflt (refine' Spec.useV (field_spec _ _ _ _ _ ?q11h1 ?q11h2 ?q11h3) ?q11B ?q11F ?q11X ?q11N ?q11T ?q11k ?q11d ?q11u ?_; (case q11B => k_asm); (case q11F => k_asm); (case q11X => k_asm); (case q11N => k_asm); (case q11T => k_asm); (case q11k => first | exact rfl | assumption); (case q11d => ktr_room); (case q11u => ktr_units); (case q11h1 => k_extra "m_len"); (case q11h2 => k_extra "m_len"); (case q11h3 => k_extra "m_len"); k_extra "m_after")))
  (k_with "call_scaled" => ((with_reducible show wpAny _ _ (call (Value.ref 74) _) _ _ _); k_dflt (refine' Spec.useV (scaled_spec _ _ _ _ _ ?q13h1 ?q13h2 ?q13h3 ?q13h4) ?q13B ?q13F ?q13X ?q13N ?q13T ?q13k ?q13d ?q13u ?_; (case q13B => k_asm); (case q13F => k_asm); (case q13X => k_asm); (case q13N => k_asm); (case q13T => k_asm); (case q13k => first | exact rfl | assumption); (case q13d => ktr_room); (case q13u => ktr_units); (case q13h1 => k_extra "m_len"); (case q13h2 => k_extra "m_len"); (case q13h3 => k_extra "m_len"); (case q13h4 => k_extra "m_len"); k_extra "m_after")))
  (k_with "call_sign" => ((with_reducible show wpAny _ _ (call (Value.ref 67) _) _ _ _); k_dflt (refine' Spec.useV (sign_spec _ _ _) ?q14B ?q14F ?q14X ?q14N ?q14T ?q14k ?q14d ?q14u ?_; (case q14B => k_asm); (case q14F => k_asm); (case q14X => k_asm); (case q14N => k_asm); (case q14T => k_asm); (case q14k => first | exact rfl | assumption); (case q14d => ktr_room); (case q14u => ktr_units); k_extra "m_after")))
  (k_with "call_point" => ((with_reducible show wpAny _ _ (call (Value.ref 81) _) _ _ _); k_dflt (refine' Spec.useV (point_spec _ _ _ _ _ _ _ _ _ ?q15h1 ?q15h2 ?q15h3 ?q15h4 ?q15h5) ?q15B ?q15F ?q15X ?q15N ?q15T ?q15k ?q15d ?q15u ?_; (case q15B => k_asm); (case q15F => k_asm); (case q15X => k_asm); (case q15N => k_asm); (case q15T => k_asm); (case q15k => first | exact rfl | assumption); (case q15d => ktr_room); (case q15u => ktr_units); (case q15h1 => k_extra "m_len"); (case q15h2 => k_extra "m_len"); (case q15h3 => k_extra "m_len"); (case q15h4 => k_extra "m_len"); (case q15h5 => k_extra "m_len"); k_extra "m_after")))
  (k_with "call_str" => ((with_reducible show wpAny _ _ (call (Value.type "str") [Value.int _ _]) _ _ _); refine str_int ?q16h1 ?q16h2 ?_; (case q16h1 => k_extra "m_len"); (case q16h2 => k_extra "m_len"); intro ef; (try dsimp only); (try k_fold)))
  (k_with "call_fixed" => ((with_reducible show wpAny _ _ (call (Value.ref 88) _) _ _ _); k_dflt (refine' Spec.useV (edit_fixed_spec _ _ _ _ _ _ _ _ _ _ _ _ _ ?q21hm ?q21h1 ?q21h2 ?q21h3 ?q21h4 ?q21h5 ?q21h6 ?q21h7 ?q21h8 ?q21h9 ?q21h10) ?q21B ?q21F ?q21X ?q21N ?q21T ?q21k ?q21d ?q21u ?_; (case q21B => k_asm); (case q21F => k_asm); (case q21X => k_asm); (case q21N => k_asm); (case q21T => k_asm); (case q21k => first | exact rfl | assumption); (case q21d => ktr_room); (case q21u => ktr_units); (case q21hm => k_extra "m_mem"); (case q21h1 => k_extra "m_len"); (case q21h2 => k_extra "m_len"); (case q21h3 => k_extra "m_len"); (case q21h4 => k_extra "m_len"); (case q21h5 => k_extra "m_len"); (case q21h6 => k_extra "m_len"); (case q21h7 => k_extra "m_len"); (case q21h8 => k_extra "m_len"); (case q21h9 => k_extra "m_len"); (case q21h10 => k_extra "m_len"); k_extra "m_after")))
  (k_with "call_lead" => ((with_reducible show wpAny _ _ (call (Value.ref 95) _) _ _ _); k_dflt (refine' Spec.useT (leading_spec _ _ _ _ _ _ _ _ ?q25hm ?q25h1 ?q25h2 ?q25h3 ?q25h4 ?q25h5 ?q25h6) ?q25B ?q25F ?q25X ?q25N ?q25T ?q25k ?q25d ?q25u ?_; (case q25B => k_asm); (case q25F => k_asm); (case q25X => k_asm); (case q25N => k_asm); (case q25T => k_asm); (case q25k => first | exact rfl | assumption); (case q25d => ktr_room); (case q25u => ktr_units); (case q25hm => k_extra "m_mem"); (case q25h1 => k_extra "m_len"); (case q25h2 => k_extra "m_len"); (case q25h3 => k_extra "m_len"); (case q25h4 => k_extra "m_len"); (case q25h5 => k_extra "m_len"); (case q25h6 => k_extra "m_len"); k_extra "m_afterT")))
  (k_with "call_exponent" => ((with_reducible show wpAny _ _ (call (Value.ref 102) _) _ _ _); k_dflt (refine' Spec.useV (exponent_spec _ _ _ _ _ _ _ ?q26h1 ?q26h2 ?q26h3 ?q26h4) ?q26B ?q26F ?q26X ?q26N ?q26T ?q26k ?q26d ?q26u ?_; (case q26B => k_asm); (case q26F => k_asm); (case q26X => k_asm); (case q26N => k_asm); (case q26T => k_asm); (case q26k => first | exact rfl | assumption); (case q26d => ktr_room); (case q26u => ktr_units); (case q26h4 => k_asm); (case q26h1 => k_extra "m_len"); (case q26h2 => k_extra "m_len"); (case q26h3 => k_extra "m_len"); k_extra "m_after")))
  (k_with "call_exp" => ((with_reducible show wpAny _ _ (call (Value.ref 109) _) _ _ _); k_dflt (refine' Spec.useV (edit_exp_spec _ _ _ _ _ _ _ _ _ _ _ _ _ _ _ _ _ ?q31hm ?q31h1 ?q31h2 ?q31h3 ?q31h4 ?q31h5 ?q31h6 ?q31h7 ?q31h8 ?q31h9 ?q31hz ?q31h10 ?q31h11) ?q31B ?q31F ?q31X ?q31N ?q31T ?q31k ?q31d ?q31u ?_; (case q31B => k_asm); (case q31F => k_asm); (case q31X => k_asm); (case q31N => k_asm); (case q31T => k_asm); (case q31k => first | exact rfl | assumption); (case q31d => ktr_room); (case q31u => ktr_units); (case q31hm => k_extra "m_mem"); (case q31hz => k_asm); (case q31h1 => k_extra "m_len"); (case q31h2 => k_extra "m_len"); (case q31h3 => k_extra "m_len"); (case q31h4 => k_extra "m_len"); (case q31h5 => k_extra "m_len"); (case q31h6 => k_extra "m_len"); (case q31h7 => k_extra "m_len"); (case q31h8 => k_extra "m_len"); (case q31h9 => k_extra "m_len"); (case q31h10 => k_extra "m_len"); (case q31h11 => k_extra "m_len"); k_extra "m_after")))
  (k_with "call_isgen" => ((with_reducible show wpAny _ _ (call (Value.ref 116) _) _ _ _); k_dflt (refine' Spec.useV (is_general_spec _ _ _ _ _ _ _ _ ?q33hm ?q33h1 ?q33h2 ?q33h3 ?q33h4 ?q33h5 ?q33h6) ?q33B ?q33F ?q33X ?q33N ?q33T ?q33k ?q33d ?q33u ?_; (case q33B => k_asm); (case q33F => k_asm); (case q33X => k_asm); (case q33N => k_asm); (case q33T => k_asm); (case q33k => first | exact rfl | assumption); (case q33d => ktr_room); (case q33u => ktr_units); (case q33hm => k_extra "m_mem"); (case q33h1 => k_extra "m_len"); (case q33h2 => k_extra "m_len"); (case q33h3 => k_extra "m_len"); (case q33h4 => k_extra "m_len"); (case q33h5 => k_extra "m_len"); (case q33h6 => k_extra "m_len"); k_extra "m_after")))
  (k_with "call_general" => ((with_reducible show wpAny _ _ (call (Value.ref 123) _) _ _ _); k_dflt (refine' Spec.useV (edit_general_spec _ _ _ _ _ _ _ _ _ _ _ _ _ _ _ ?q40hm ?q40h1 ?q40h2 ?q40h3 ?q40h4 ?q40h5 ?q40h6 ?q40h7 ?q40h8 ?q40hz ?q40h9 ?q40h10) ?q40B ?q40F ?q40X ?q40N ?q40T ?q40k ?q40d ?q40u ?_; (case q40B => k_asm); (case q40F => k_asm); (case q40X => k_asm); (case q40N => k_asm); (case q40T => k_asm); (case q40k => first | exact rfl | assumption); (case q40d => ktr_room); (case q40u => ktr_units); (case q40hm => k_extra "m_mem"); (case q40hz => k_asm); (case q40h1 => k_extra "m_len"); (case q40h2 => k_extra "m_len"); (case q40h3 => k_extra "m_len"); (case q40h4 => k_extra "m_len"); (case q40h5 => k_extra "m_len"); (case q40h6 => k_extra "m_len"); (case q40h7 => k_extra "m_len"); (case q40h8 => k_extra "m_len"); (case q40h9 => k_extra "m_len"); (case q40h10 => k_extra "m_len"); k_extra "m_after")))
  (k_with "call_real" => ((with_reducible show wpAny _ _ (call (Value.ref 130) _) _ _ _); k_dflt (refine' Spec.useV (edit_real_spec _ _ _ _ _ _ _ _ _ _ _ _ _ ?q44hm ?q44hi ?q44hr ?q44hk ?q44h1 ?q44h2 ?q44h3 ?q44h4 ?q44h5 ?q44h6 ?q44h7 ?q44h8) ?q44B ?q44F ?q44X ?q44N ?q44T ?q44k ?q44d ?q44u ?_; (case q44B => k_asm); (case q44F => k_asm); (case q44X => k_asm); (case q44N => k_asm); (case q44T => k_asm); (case q44k => first | exact rfl | assumption); (case q44d => ktr_room); (case q44u => ktr_units); (case q44hm => k_extra "m_mem"); (case q44hr => assumption); (case q44hi => k_extra "m_mem"); (case q44hk => k_asm); (case q44h1 => k_extra "m_len"); (case q44h2 => k_extra "m_len"); (case q44h3 => k_extra "m_len"); (case q44h4 => k_extra "m_len"); (case q44h5 => k_extra "m_len"); (case q44h6 => k_extra "m_len"); (case q44h7 => k_extra "m_len"); (case q44h8 => k_extra "m_len"); k_extra "m_after")))
  (k_with "call_less" => ((with_reducible show wpAny _ _ (call (Value.ref 158) _) _ _ _); k_dflt (refine' Spec.useT (less_spec _ _ _ _ _ _ _ _ _ _ _ ?q47hm ?q47hm2 ?q47h1 ?q47h2 ?q47h3 ?q47h4 ?q47h5 ?q47h6 ?q47h7 ?q47h8) ?q47B ?q47F ?q47X ?q47N ?q47T ?q47k ?q47d ?q47u ?_; (case q47B => k_asm); (case q47F => k_asm); (case q47X => k_asm); (case q47N => k_asm); (case q47T => k_asm); (case q47k => first | exact rfl | assumption); (case q47d => ktr_room); (case q47u => ktr_units); (case q47hm => k_extra "m_mem"); (case q47hm2 => k_extra "m_mem"); (case q47h1 => k_extra "m_len"); (case q47h2 => k_extra "m_len"); (case q47h3 => k_extra "m_len"); (case q47h4 => k_extra "m_len"); (case q47h5 => k_extra "m_len"); (case q47h6 => k_extra "m_len"); (case q47h7 => k_extra "m_len"); (case q47h8 => k_extra "m_len"); k_extra "m_afterT")))
  (k_with "call_near" => ((with_reducible show wpAny _ _ (call (Value.ref 165) _) _ _ _); k_dflt (refine' Spec.useV (near_spec _ _ _ _ _ _ _ _ _ _ _ ?q51hm ?q51hm2 ?q51h1 ?q51h2 ?q51h3 ?q51h4 ?q51h5 ?q51h6 ?q51h7 ?q51h8) ?q51B ?q51F ?q51X ?q51N ?q51T ?q51k ?q51d ?q51u ?_; (case q51B => k_asm); (case q51F => k_asm); (case q51X => k_asm); (case q51N => k_asm); (case q51T => k_asm); (case q51k => first | exact rfl | assumption); (case q51d => ktr_room); (case q51u => ktr_units); (case q51hm => k_extra "m_mem"); (case q51hm2 => k_extra "m_mem"); (case q51h1 => k_extra "m_len"); (case q51h2 => k_extra "m_len"); (case q51h3 => k_extra "m_len"); (case q51h4 => k_extra "m_len"); (case q51h5 => k_extra "m_len"); (case q51h6 => k_extra "m_len"); (case q51h7 => k_extra "m_len"); (case q51h8 => k_extra "m_len"); k_extra "m_after")))
  (k_with "call_turned" => ((with_reducible show wpAny _ _ (call (Value.ref 172) _) _ _ _); k_dflt (refine' Spec.useV (turned_spec _ _ _ ?q52h1 ?q52h2) ?q52B ?q52F ?q52X ?q52N ?q52T ?q52k ?q52d ?q52u ?_; (case q52B => k_asm); (case q52F => k_asm); (case q52X => k_asm); (case q52N => k_asm); (case q52T => k_asm); (case q52k => first | exact rfl | assumption); (case q52d => ktr_room); (case q52u => ktr_units); (case q52h1 => k_extra "m_len"); (case q52h2 => k_extra "m_len"); k_extra "m_after")))
  (k_with "call_draw" => ((with_reducible show wpAny _ _ (call (Value.ref 137) _) _ _ _); k_dflt (refine' Spec.use (draw_spec _ _ _ _ _ _ _ _ _ _ ?q55hm ?q55hi ?q55hn ?q55h1 ?q55h2 ?q55h3 ?q55h4 ?q55h5) ?q55B ?q55F ?q55X ?q55N ?q55T ?q55k ?q55d ?q55u ?_; (case q55B => k_asm); (case q55F => k_asm); (case q55X => k_asm); (case q55N => first | k_asm | exact news_swap (by k_asm)); (case q55T => k_asm); (case q55k => first | exact rfl | assumption); (case q55d => ktr_room); (case q55u => ktr_units); (case q55hm => k_mem); (case q55hi => assumption); (case q55hn => first | assumption | k_all); (case q55h1 => k_extra "m_len"); (case q55h2 => k_extra "m_len"); (case q55h3 => k_extra "m_len"); (case q55h4 => k_extra "m_len"); (case q55h5 => k_extra "m_len"); intro v nw h' tk' hP F9 N9; obtain ⟨t', tv, e1, e2, ef1, ef2⟩ := hP; subst e1; subst e2; (try dsimp only); (try k_sweep); (try k_fold))))
  (k_with "call_lreal" => ((with_reducible show wpAny _ _ (call (Value.ref 144) _) _ _ _); k_dflt (refine' Spec.use (real_spec _ _ _ _ _ _ _ _ ?q57hm ?q57hi ?q57hn ?q57h1 ?q57h2 ?q57h3) ?q57B ?q57F ?q57X ?q57N ?q57T ?q57k ?q57d ?q57u ?_; (case q57B => k_asm); (case q57F => k_asm); (case q57X => k_asm); (case q57N => first | k_asm | exact news_swap (by k_asm)); (case q57T => k_asm); (case q57k => first | exact rfl | assumption); (case q57d => ktr_room); (case q57u => ktr_units); (case q57hm => k_mem); (case q57hi => assumption); (case q57hn => first | assumption | k_all); (case q57h1 => k_extra "m_len"); (case q57h2 => k_extra "m_len"); (case q57h3 => k_extra "m_len"); intro v nw h' tk' hP F9 N9; obtain ⟨tt, t', ta, tb, e1, e2, ef, l1, l2⟩ := hP; subst e1; subst e2; (try k_lt2 l1); (try k_lt l2); (try dsimp only); (try k_sweep); (try k_fold))))
  (k_with "m_kmem" => first | with_reducible assumption | exact List.Mem.head _ | (refine' List.Mem.tail _ ?_; k_mem))
  (k_with "m_len" => ((have hb1 := TT.hn (by with_reducible assumption)); omega))
  (k_with "m_len" => first | with_reducible assumption | omega)
  (k_with "call_near" => ((with_reducible show wpAny _ _ (call (Value.ref 165) _) _ _ _); k_dflt (refine' Spec.useV (near_true _ _ _ _ _ _ _ _ _ _ _ ?q74hm ?q74hm2 ?q74h1 ?q74h2 ?q74h3 ?q74h4 ?q74h5 ?q74h6 ?q74h7 ?q74h8 ?q74h9) ?q74B ?q74F ?q74X ?q74N ?q74T ?q74k ?q74d ?q74u ?_; (case q74B => k_asm); (case q74F => k_asm); (case q74X => k_asm); (case q74N => k_asm); (case q74T => k_asm); (case q74k => first | exact rfl | assumption); (case q74d => ktr_room); (case q74u => ktr_units); (case q74hm => k_mem); (case q74hm2 => k_mem); (case q74h9 => with_reducible assumption); (case q74h1 => k_extra "m_len"); (case q74h2 => k_extra "m_len"); (case q74h3 => k_extra "m_len"); (case q74h4 => k_extra "m_len"); (case q74h5 => k_extra "m_len"); (case q74h6 => k_extra "m_len"); (case q74h7 => k_extra "m_len"); (case q74h8 => k_extra "m_len"); k_extra "m_after")))
  (k_with "call_turned" => ((with_reducible show wpAny _ _ (call (Value.ref 172) _) _ _ _); k_dflt (refine' Spec.useV (turned_spec _ _ _ ?q75h1 ?q75h2) ?q75B ?q75F ?q75X ?q75N ?q75T ?q75k ?q75d ?q75u ?_; (case q75B => k_asm); (case q75F => k_asm); (case q75X => k_asm); (case q75N => k_asm); (case q75T => k_asm); (case q75k => first | exact rfl | assumption); (case q75d => ktr_room); (case q75u => ktr_units); (case q75h1 => omega); (case q75h2 => exact strip_pos (TT.hR (by with_reducible assumption))); k_extra "m_after")))
  (k_with "call ref" => first | k_extra "call_real" | k_extra "call_near" | k_extra "call_turned")
  (k_with "compareOp NotEq str str" => (refine' ne_b ?q77a ?_; (case q77a => exact TT.hT (by with_reducible assumption))))
  (k_with "m_rmem" => first | with_reducible assumption | with_reducible exact List.mem_cons_self | ((with_reducible refine List.mem_cons_of_mem _ ?_); k_extra "m_rmem"))
  (k_with "subscriptTail Name Constant ref int" => (first | ((with_reducible show wpAny _ _ (subscriptTail _ _ (Value.ref _) (Value.int 0 _)) _ _ _); k_dflt (refine' tup_fst ?q79a ?q79b ?_ ?q79c; (case q79a => k_asm); (case q79b => k_extra "m_rmem"); (case q79c => with_unfolding_all rfl); k_whole)) | ((with_reducible show wpAny _ _ (subscriptTail _ _ (Value.ref _) (Value.int 1 _)) _ _ _); k_dflt (refine' tup_snd ?q79a ?q79b ?_ ?q79c; (case q79a => k_asm); (case q79b => k_extra "m_rmem"); (case q79c => with_unfolding_all rfl); k_whole)) | ((with_reducible show wpAny _ _ (subscriptTail _ _ (Value.ref _) (Value.int 0 _)) _ _ _); k_dflt (refine' lst_fst ?q79a ?q79b ?_ ?q79c; (case q79a => k_asm); (case q79b => k_extra "m_rmem"); (case q79c => with_unfolding_all rfl); k_whole)) | ((with_reducible show wpAny _ _ (subscriptTail _ _ (Value.ref _) (Value.int 1 _)) _ _ _); k_dflt (refine' lst_snd ?q79a ?q79b ?_ ?q79c; (case q79a => k_asm); (case q79b => k_extra "m_rmem"); (case q79c => with_unfolding_all rfl); k_whole))))
  (k_with "compareOp NotEq int int" => (refine' ne_int_b ?q80a ?_; (case q80a => exact len_ne (by with_reducible assumption))))
  (k_with "call builtin:str.strip" => ((refine SCL.strip (hsz := ?q81hsz) ?_); (case q81hsz => size_fits); intro _ _ _))
  exact True.intro
def TurnEnd (h₀ : Heap) (L : Addr) (m : Str → Option Value) (s : Shared) (news : Led) (Q : Flow → Shared → Prop) : Prop :=
  ∀ d h' tk', Fr h₀ L h' (fun y => if y = Str.ofString "due" then some (.ref d) else m y) → News h₀ L h' news → Q .next { s with heap := h', toks := tk' }
theorem TurnEnd.at {h₀ : Heap} {L : Addr} {m : Str → Option Value} {s : Shared} {news : Led} {Q : Flow → Shared → Prop} (H : TurnEnd h₀ L m s news Q) {d : Addr} {h' : Heap}
    (F : Fr h₀ L h' (fun y => if y = Str.ofString "due" then some (.ref d) else m y)) (N : News h₀ L h' news) : ∀ tk', Q .next { s with heap := h', toks := tk' } := fun _ => H _ _ _ F N
theorem turn_rest {w : World} {sc : Scope} {body : List Stmt} (hsc : sc = lawScope) (hbody : body = turnBody.drop 1) {loose : List Str} {mean : ExcName → Option Value} {mg mb : Str → Option Value} {dp un : Nat} {gd : Option (List Code)} {cn : Str} {a : Addr} {ccd : Value} {ci cs : Addr} {outer : List Env} {A₀ : Around} {base h₀ : Heap} {L : Addr} {m : Str → Option Value} {s : Shared} {Q : Flow → Shared → Prop} {E : Value → Shared → Prop}
    (B : Below A₀ base outer h₀) {tv xv ia d : Addr} {v e n f places k scale de : Int} {kind : Nat} {items : List Value} {lt : Str} {isF : Bool} {u1 u2 u3 u4 u5 u6 u7 u8 u9 : Tok} {oi os : Obj} {news : Led}
    (F : Fr h₀ L s.heap (fun y => if y = Str.ofString "due" then some (.ref d) else turnMap (edit_real kind v e places k scale) u6 tv xv lt u7 m y))
    (X : (hd.heap_39 w.params).In h₀) (N : News h₀ L s.heap news) (T : Top hd.view_39 loose mean mg mb h₀)
    (hd : dp + 20 < recursionLimit) (hu : un + 8 * 20 < cLine)
    (hoi : oi.data = .cell (some (.ref ia))) (hos : os.data = .cell (some (.int scale u5)))
    (mi : (ia, tup items) ∈ news) (mci : (ci, oi) ∈ news) (mcs : (cs, os) ∈ news) (mt : (tv, tup [.int n u1, .int f u2]) ∈ news) (mx : (xv, tup [.int v u3, .int e u4]) ∈ news) (md : (d, tup [.int v u8, .int de u9]) ∈ news)
    (hr : ItemR places k kind items) (hk : 2 ≤ k ∧ k ≤ 3) (hp : 1 ≤ places) (hp' : places ≤ 9) (hs : -places < scale) (hs' : scale ≤ places + 1)
    (hv : -10 ^ 10 ≤ v) (hv' : v ≤ 10 ^ 10) (he : -15 ≤ e) (he' : e ≤ 10)
    (H : TT kind v e places k scale n f lt isF) (hde : -30 ≤ de) (hde' : de ≤ 30) (hnear : is_near n f v de = true)
    (hend : ∀ h' tk', Fr h₀ L h' (fun y => if y = Str.ofString "due" then some (.ref d) else turnMap (edit_real kind v e places k scale) u6 tv xv lt u7 m y) → News h₀ L h' news → Q .next { s with heap := h', toks := tk' }) :
    wpAny (model PySem.Challenge.pw_no0231_01 w) (ktrTop dp un gd cn sc L a ccd [(Str.ofString "item", ci), (Str.ofString "scale", cs)] outer) (execs (body) (envX cn sc L a ccd [(Str.ofString "item", ci), (Str.ofString "scale", cs)])) Q E s := by
  k_extra "m_fill"
  conv at hsc => rhs; whnf
  conv at hbody => rhs; whnf
  subst hsc
  subst hbody
  have hl : ((edit_real kind v e places k scale).length : Int) = 44 := edit_real_len hk
  k_steps
  all_goals exact hend _ _ (by k_asm) (by k_extra "m_news")
theorem reg_30 : True := by
  (k_with "compareOp Eq str str" => (refine' eq_b ?q82a ?_; (case q82a => exact TT.hF (by with_reducible assumption))))
  (k_with "execs cons" => ((with_reducible show wpAny _ _ (execs (Stmt.If _ _ _ _ :: _) _) _ _ _); k_dflt (refine' turn_rest ?q83hsc ?q83hbody ?q83B ?q83F ?q83X ?q83N ?q83T ?q83hd ?q83hu ?q83hoi ?q83hos ?q83mi ?q83mci ?q83mcs ?q83mt ?q83mx ?q83md ?q83hr ?q83hk ?q83hp ?q83hp' ?q83hs ?q83hs' ?q83hv ?q83hv' ?q83he ?q83he' ?q83H ?q83hde ?q83hde' ?q83hnear ?_; (case q83B => k_asm); (case q83F => k_asm); (case q83X => k_asm); (case q83N => k_asm); (case q83T => k_asm); (case q83hoi => with_reducible assumption); (case q83hos => with_reducible assumption); (case q83H => with_reducible assumption); (case q83mi => k_mem); (case q83mci => k_mem); (case q83mcs => k_mem); (case q83mt => k_mem); (case q83mx => k_mem); (case q83md => k_mem); (case q83hd => ktr_room); (case q83hu => ktr_units); (case q83hsc => rfl); (case q83hbody => rfl); (case q83hr => with_reducible assumption); (case q83hk => with_reducible assumption); (case q83hnear => with_reducible first | exact TT.hN (by with_reducible assumption) rfl | exact TT.hN' (by with_reducible assumption) rfl); (case q83hp => omega); (case q83hp' => omega); (case q83hs => omega); (case q83hs' => omega); (case q83hv => with_reducible assumption); (case q83hv' => with_reducible assumption); (case q83he => omega); (case q83he' => omega); (case q83hde => omega); (case q83hde' => omega)); intro h' tk' F' N'; k_dflt ((have q9 := TurnEnd.at (by with_reducible assumption) F' (by k_extra "m_news")); exact q9 _)))
  exact True.intro
theorem turn_walk {w : World} {sc : Scope} {body : List Stmt} (hsc : sc = lawScope) (hbody : body = turnBody) {loose : List Str} {mean : ExcName → Option Value} {mg mb : Str → Option Value} {dp un : Nat} {gd : Option (List Code)} {cn : Str} {a : Addr} {ccd : Value} {ci cs : Addr} {outer : List Env} {A₀ : Around} {base h₀ : Heap} {L : Addr} {m : Str → Option Value} {s : Shared} {Q : Flow → Shared → Prop} {E : Value → Shared → Prop}
    (B : Below A₀ base outer h₀) {tv xv ia : Addr} {v e n f places k scale : Int} {kind : Nat} {items : List Value} {lt : Str} {isF : Bool} {u1 u2 u3 u4 u5 u6 u7 : Tok} {oi os : Obj} {news : Led}
    (F : Fr h₀ L s.heap (turnMap (edit_real kind v e places k scale) u6 tv xv lt u7 m))
    (X : (hd.heap_39 w.params).In h₀) (N : News h₀ L s.heap news) (T : Top hd.view_39 loose mean mg mb h₀)
    (hd : dp + 20 < recursionLimit) (hu : un + 8 * 20 < cLine)
    (hoi : oi.data = .cell (some (.ref ia))) (hos : os.data = .cell (some (.int scale u5)))
    (mi : (ia, tup items) ∈ news) (mci : (ci, oi) ∈ news) (mcs : (cs, os) ∈ news) (mt : (tv, tup [.int n u1, .int f u2]) ∈ news) (mx : (xv, tup [.int v u3, .int e u4]) ∈ news)
    (hr : ItemR places k kind items) (hk : 2 ≤ k ∧ k ≤ 3) (hp : 1 ≤ places) (hp' : places ≤ 9) (hs : -places < scale) (hs' : scale ≤ places + 1)
    (hv : -10 ^ 10 ≤ v) (hv' : v ≤ 10 ^ 10) (he : -15 ≤ e) (he' : e ≤ 10)
    (H : TT kind v e places k scale n f lt isF)
    (hend : TurnEnd h₀ L (turnMap (edit_real kind v e places k scale) u6 tv xv lt u7 m) s news Q) :
    wpAny (model PySem.Challenge.pw_no0231_01 w) (ktrTop dp un gd cn sc L a ccd [(Str.ofString "item", ci), (Str.ofString "scale", cs)] outer) (execs (body) (envX cn sc L a ccd [(Str.ofString "item", ci), (Str.ofString "scale", cs)])) Q E s := by
  k_extra "m_fill"
  conv at hsc => rhs; whnf
  conv at hbody => rhs; whnf
  subst hsc
  subst hbody
  cases isF
  all_goals k_steps
end
end
section
theorem reg_31 : True := by
  k_with_none
  (k_with "m_mem" => first | assumption | exact List.Mem.head _ | (refine' List.Mem.tail _ ?_; k_extra "m_mem"))
  (k_with "m_kmem" => assumption)
  (k_with "m_fill" => ((have mfill : PySem.Challenge.rw_no0231_01 = PySem.Challenge.rw_no0231_01 ∧ _root_.Mine.hd.heap_39 = _root_.Mine.hd.heap_39 := by (k_fill; exact ⟨rfl, rfl⟩)); clear mfill))
  (k_with "m_start" => (k_extra "m_fill"; unfold Spec; intros; refine wpAny_call ?_; k_dflt cell_enter))
  (k_with "m_news" => first | with_reducible assumption | (refine cb_drop (by with_reducible assumption) (fun p hp => .tail _ hp)) | (refine cb_drop (by with_reducible assumption) (fun p hp => .tail _ (.tail _ hp))) | (refine cb_drop (by with_reducible assumption) (fun p hp => .tail _ (.tail _ (.tail _ hp)))) | k_asm)
  (k_with "m_ifs" => (repeat' split) <;> first | rfl | (exfalso; first | contradiction | omega | simp_all))
  (k_with "m_after" => (intro t h' tk' ef F9 N9; (try dsimp only); (try k_fold)))
  (k_with "m_afterT" => (intro t ta tb h' tk' ef F9 N9 l1; (try k_lt l1); (try dsimp only); (try k_sweep); (try k_fold)))
  (k_with "m_len" => first | assumption | omega | ((try simp only [Str.length_append, lenA, lenB, lenC, lenD, lenE, lenF, lenG, lenH] at *); omega) | size_fits | l_fact)
  (k_with "call_field" => ((with_reducible show wpAny _ _ (call (Value.ref 60) _) _ _ _); k_dflt (refine' Spec.useV (field_spec _ _ _ _ _ ?q11h1 ?q11h2 ?q11h3) ?q11B ?q11F ?q11X ?q11N ?q11T ?q11k ?q11d ?q11u ?_; (case q11B => k_asm); (case q11F => k_asm); (case q11X => k_asm); (case q11N => k_asm); (case q11T => k_asm); (case q11k => first | exact rfl | assumption); (case q11d => ktr_room); (case q11u => ktr_units); (case q11h1 => k_extra "m_len"); (case q11h2 => k_extra "m_len"); (case q11h3 => k_extra "m_len"); k_extra "m_after")))
  (k_with "call_scaled" => ((with_reducible show wpAny _ _ (call (Value.ref 74) _) _ _ _); k_dflt (refine' Spec.useV (scaled_spec _ _ _ _ _ ?q13h1 ?q13h2 ?q13h3 ?q13h4) ?q13B ?q13F ?q13X ?q13N ?q13T ?q13k ?q13d ?q13u ?_; (case q13B => k_asm); (case q13F => k_asm); (case q13X => k_asm); (case q13N => k_asm); (case q13T => k_asm); (case q13k => first | exact rfl | assumption); (case q13d => ktr_room); (case q13u => ktr_units); (case q13h1 => k_extra "m_len"); (case q13h2 => k_extra "m_len"); (case q13h3 => k_extra "m_len"); (case q13h4 => k_extra "m_len"); k_extra "m_after")))
  (k_with "call_sign" => ((with_reducible show wpAny _ _ (call (Value.ref 67) _) _ _ _); k_dflt (refine' Spec.useV (sign_spec _ _ _) ?q14B ?q14F ?q14X ?q14N ?q14T ?q14k ?q14d ?q14u ?_; (case q14B => k_asm); (case q14F => k_asm); (case q14X => k_asm); (case q14N => k_asm); (case q14T => k_asm); (case q14k => first | exact rfl | assumption); (case q14d => ktr_room); (case q14u => ktr_units); k_extra "m_after")))
  (k_with "call_point" => ((with_reducible show wpAny _ _ (call (Value.ref 81) _) _ _ _); k_dflt (refine' Spec.useV (point_spec _ _ _ _ _ _ _ _ _ ?q15h1 ?q15h2 ?q15h3 ?q15h4 ?q15h5) ?q15B ?q15F ?q15X ?q15N ?q15T ?q15k ?q15d ?q15u ?_; (case q15B => k_asm); (case q15F => k_asm); (case q15X => k_asm); (case q15N => k_asm); (case q15T => k_asm); (case q15k => first | exact rfl | assumption); (case q15d => ktr_room); (case q15u => ktr_units); (case q15h1 => k_extra "m_len"); (case q15h2 => k_extra "m_len"); (case q15h3 => k_extra "m_len"); (case q15h4 => k_extra "m_len"); (case q15h5 => k_extra "m_len"); k_extra "m_after")))
  (k_with "call_str" => ((with_reducible show wpAny _ _ (call (Value.type "str") [Value.int _ _]) _ _ _); refine str_int ?q16h1 ?q16h2 ?_; (case q16h1 => k_extra "m_len"); (case q16h2 => k_extra "m_len"); intro ef; (try dsimp only); (try k_fold)))
  (k_with "call_fixed" => ((with_reducible show wpAny _ _ (call (Value.ref 88) _) _ _ _); k_dflt (refine' Spec.useV (edit_fixed_spec _ _ _ _ _ _ _ _ _ _ _ _ _ ?q21hm ?q21h1 ?q21h2 ?q21h3 ?q21h4 ?q21h5 ?q21h6 ?q21h7 ?q21h8 ?q21h9 ?q21h10) ?q21B ?q21F ?q21X ?q21N ?q21T ?q21k ?q21d ?q21u ?_; (case q21B => k_asm); (case q21F => k_asm); (case q21X => k_asm); (case q21N => k_asm); (case q21T => k_asm); (case q21k => first | exact rfl | assumption); (case q21d => ktr_room); (case q21u => ktr_units); (case q21hm => k_extra "m_mem"); (case q21h1 => k_extra "m_len"); (case q21h2 => k_extra "m_len"); (case q21h3 => k_extra "m_len"); (case q21h4 => k_extra "m_len"); (case q21h5 => k_extra "m_len"); (case q21h6 => k_extra "m_len"); (case q21h7 => k_extra "m_len"); (case q21h8 => k_extra "m_len"); (case q21h9 => k_extra "m_len"); (case q21h10 => k_extra "m_len"); k_extra "m_after")))
  (k_with "call_lead" => ((with_reducible show wpAny _ _ (call (Value.ref 95) _) _ _ _); k_dflt (refine' Spec.useT (leading_spec _ _ _ _ _ _ _ _ ?q25hm ?q25h1 ?q25h2 ?q25h3 ?q25h4 ?q25h5 ?q25h6) ?q25B ?q25F ?q25X ?q25N ?q25T ?q25k ?q25d ?q25u ?_; (case q25B => k_asm); (case q25F => k_asm); (case q25X => k_asm); (case q25N => k_asm); (case q25T => k_asm); (case q25k => first | exact rfl | assumption); (case q25d => ktr_room); (case q25u => ktr_units); (case q25hm => k_extra "m_mem"); (case q25h1 => k_extra "m_len"); (case q25h2 => k_extra "m_len"); (case q25h3 => k_extra "m_len"); (case q25h4 => k_extra "m_len"); (case q25h5 => k_extra "m_len"); (case q25h6 => k_extra "m_len"); k_extra "m_afterT")))
  (k_with "call_exponent" => ((with_reducible show wpAny _ _ (call (Value.ref 102) _) _ _ _); k_dflt (refine' Spec.useV (exponent_spec _ _ _ _ _ _ _ ?q26h1 ?q26h2 ?q26h3 ?q26h4) ?q26B ?q26F ?q26X ?q26N ?q26T ?q26k ?q26d ?q26u ?_; (case q26B => k_asm); (case q26F => k_asm); (case q26X => k_asm); (case q26N => k_asm); (case q26T => k_asm); (case q26k => first | exact rfl | assumption); (case q26d => ktr_room); (case q26u => ktr_units); (case q26h4 => k_asm); (case q26h1 => k_extra "m_len"); (case q26h2 => k_extra "m_len"); (case q26h3 => k_extra "m_len"); k_extra "m_after")))
  (k_with "call_exp" => ((with_reducible show wpAny _ _ (call (Value.ref 109) _) _ _ _); k_dflt (refine' Spec.useV (edit_exp_spec _ _ _ _ _ _ _ _ _ _ _ _ _ _ _ _ _ ?q31hm ?q31h1 ?q31h2 ?q31h3 ?q31h4 ?q31h5 ?q31h6 ?q31h7 ?q31h8 ?q31h9 ?q31hz ?q31h10 ?q31h11) ?q31B ?q31F ?q31X ?q31N ?q31T ?q31k ?q31d ?q31u ?_; (case q31B => k_asm); (case q31F => k_asm); (case q31X => k_asm); (case q31N => k_asm); (case q31T => k_asm); (case q31k => first | exact rfl | assumption); (case q31d => ktr_room); (case q31u => ktr_units); (case q31hm => k_extra "m_mem"); (case q31hz => k_asm); (case q31h1 => k_extra "m_len"); (case q31h2 => k_extra "m_len"); (case q31h3 => k_extra "m_len"); (case q31h4 => k_extra "m_len"); (case q31h5 => k_extra "m_len"); (case q31h6 => k_extra "m_len"); (case q31h7 => k_extra "m_len"); (case q31h8 => k_extra "m_len"); (case q31h9 => k_extra "m_len"); (case q31h10 => k_extra "m_len"); (case q31h11 => k_extra "m_len"); k_extra "m_after")))
  (k_with "call_isgen" => ((with_reducible show wpAny _ _ (call (Value.ref 116) _) _ _ _); k_dflt (refine' Spec.useV (is_general_spec _ _ _ _ _ _ _ _ ?q33hm ?q33h1 ?q33h2 ?q33h3 ?q33h4 ?q33h5 ?q33h6) ?q33B ?q33F ?q33X ?q33N ?q33T ?q33k ?q33d ?q33u ?_; (case q33B => k_asm); (case q33F => k_asm); (case q33X => k_asm); (case q33N => k_asm); (case q33T => k_asm); (case q33k => first | exact rfl | assumption); (case q33d => ktr_room); (case q33u => ktr_units); (case q33hm => k_extra "m_mem"); (case q33h1 => k_extra "m_len"); (case q33h2 => k_extra "m_len"); (case q33h3 => k_extra "m_len"); (case q33h4 => k_extra "m_len"); (case q33h5 => k_extra "m_len"); (case q33h6 => k_extra "m_len"); k_extra "m_after")))
  (k_with "call_general" => ((with_reducible show wpAny _ _ (call (Value.ref 123) _) _ _ _); k_dflt (refine' Spec.useV (edit_general_spec _ _ _ _ _ _ _ _ _ _ _ _ _ _ _ ?q40hm ?q40h1 ?q40h2 ?q40h3 ?q40h4 ?q40h5 ?q40h6 ?q40h7 ?q40h8 ?q40hz ?q40h9 ?q40h10) ?q40B ?q40F ?q40X ?q40N ?q40T ?q40k ?q40d ?q40u ?_; (case q40B => k_asm); (case q40F => k_asm); (case q40X => k_asm); (case q40N => k_asm); (case q40T => k_asm); (case q40k => first | exact rfl | assumption); (case q40d => ktr_room); (case q40u => ktr_units); (case q40hm => k_extra "m_mem"); (case q40hz => k_asm); (case q40h1 => k_extra "m_len"); (case q40h2 => k_extra "m_len"); (case q40h3 => k_extra "m_len"); (case q40h4 => k_extra "m_len"); (case q40h5 => k_extra "m_len"); (case q40h6 => k_extra "m_len"); (case q40h7 => k_extra "m_len"); (case q40h8 => k_extra "m_len"); (case q40h9 => k_extra "m_len"); (case q40h10 => k_extra "m_len"); k_extra "m_after")))
  (k_with "call_real" => ((with_reducible show wpAny _ _ (call (Value.ref 130) _) _ _ _); k_dflt (refine' Spec.useV (edit_real_spec _ _ _ _ _ _ _ _ _ _ _ _ _ ?q44hm ?q44hi ?q44hr ?q44hk ?q44h1 ?q44h2 ?q44h3 ?q44h4 ?q44h5 ?q44h6 ?q44h7 ?q44h8) ?q44B ?q44F ?q44X ?q44N ?q44T ?q44k ?q44d ?q44u ?_; (case q44B => k_asm); (case q44F => k_asm); (case q44X => k_asm); (case q44N => k_asm); (case q44T => k_asm); (case q44k => first | exact rfl | assumption); (case q44d => ktr_room); (case q44u => ktr_units); (case q44hm => k_extra "m_mem"); (case q44hr => assumption); (case q44hi => k_extra "m_mem"); (case q44hk => k_asm); (case q44h1 => k_extra "m_len"); (case q44h2 => k_extra "m_len"); (case q44h3 => k_extra "m_len"); (case q44h4 => k_extra "m_len"); (case q44h5 => k_extra "m_len"); (case q44h6 => k_extra "m_len"); (case q44h7 => k_extra "m_len"); (case q44h8 => k_extra "m_len"); k_extra "m_after")))
  (k_with "call_less" => ((with_reducible show wpAny _ _ (call (Value.ref 158) _) _ _ _); k_dflt (refine' Spec.useT (less_spec _ _ _ _ _ _ _ _ _ _ _ ?q47hm ?q47hm2 ?q47h1 ?q47h2 ?q47h3 ?q47h4 ?q47h5 ?q47h6 ?q47h7 ?q47h8) ?q47B ?q47F ?q47X ?q47N ?q47T ?q47k ?q47d ?q47u ?_; (case q47B => k_asm); (case q47F => k_asm); (case q47X => k_asm); (case q47N => k_asm); (case q47T => k_asm); (case q47k => first | exact rfl | assumption); (case q47d => ktr_room); (case q47u => ktr_units); (case q47hm => k_extra "m_mem"); (case q47hm2 => k_extra "m_mem"); (case q47h1 => k_extra "m_len"); (case q47h2 => k_extra "m_len"); (case q47h3 => k_extra "m_len"); (case q47h4 => k_extra "m_len"); (case q47h5 => k_extra "m_len"); (case q47h6 => k_extra "m_len"); (case q47h7 => k_extra "m_len"); (case q47h8 => k_extra "m_len"); k_extra "m_afterT")))
  (k_with "call_near" => ((with_reducible show wpAny _ _ (call (Value.ref 165) _) _ _ _); k_dflt (refine' Spec.useV (near_spec _ _ _ _ _ _ _ _ _ _ _ ?q51hm ?q51hm2 ?q51h1 ?q51h2 ?q51h3 ?q51h4 ?q51h5 ?q51h6 ?q51h7 ?q51h8) ?q51B ?q51F ?q51X ?q51N ?q51T ?q51k ?q51d ?q51u ?_; (case q51B => k_asm); (case q51F => k_asm); (case q51X => k_asm); (case q51N => k_asm); (case q51T => k_asm); (case q51k => first | exact rfl | assumption); (case q51d => ktr_room); (case q51u => ktr_units); (case q51hm => k_extra "m_mem"); (case q51hm2 => k_extra "m_mem"); (case q51h1 => k_extra "m_len"); (case q51h2 => k_extra "m_len"); (case q51h3 => k_extra "m_len"); (case q51h4 => k_extra "m_len"); (case q51h5 => k_extra "m_len"); (case q51h6 => k_extra "m_len"); (case q51h7 => k_extra "m_len"); (case q51h8 => k_extra "m_len"); k_extra "m_after")))
  (k_with "call_turned" => ((with_reducible show wpAny _ _ (call (Value.ref 172) _) _ _ _); k_dflt (refine' Spec.useV (turned_spec _ _ _ ?q52h1 ?q52h2) ?q52B ?q52F ?q52X ?q52N ?q52T ?q52k ?q52d ?q52u ?_; (case q52B => k_asm); (case q52F => k_asm); (case q52X => k_asm); (case q52N => k_asm); (case q52T => k_asm); (case q52k => first | exact rfl | assumption); (case q52d => ktr_room); (case q52u => ktr_units); (case q52h1 => k_extra "m_len"); (case q52h2 => k_extra "m_len"); k_extra "m_after")))
  (k_with "call_draw" => ((with_reducible show wpAny _ _ (call (Value.ref 137) _) _ _ _); k_dflt (refine' Spec.use (draw_spec _ _ _ _ _ _ _ _ _ _ ?q55hm ?q55hi ?q55hn ?q55h1 ?q55h2 ?q55h3 ?q55h4 ?q55h5) ?q55B ?q55F ?q55X ?q55N ?q55T ?q55k ?q55d ?q55u ?_; (case q55B => k_asm); (case q55F => k_asm); (case q55X => k_asm); (case q55N => first | k_asm | exact news_swap (by k_asm)); (case q55T => k_asm); (case q55k => first | exact rfl | assumption); (case q55d => ktr_room); (case q55u => ktr_units); (case q55hm => k_mem); (case q55hi => assumption); (case q55hn => first | assumption | k_all); (case q55h1 => k_extra "m_len"); (case q55h2 => k_extra "m_len"); (case q55h3 => k_extra "m_len"); (case q55h4 => k_extra "m_len"); (case q55h5 => k_extra "m_len"); intro v nw h' tk' hP F9 N9; obtain ⟨t', tv, e1, e2, ef1, ef2⟩ := hP; subst e1; subst e2; (try dsimp only); (try k_sweep); (try k_fold))))
  (k_with "call_lreal" => ((with_reducible show wpAny _ _ (call (Value.ref 144) _) _ _ _); k_dflt (refine' Spec.use (real_spec _ _ _ _ _ _ _ _ ?q57hm ?q57hi ?q57hn ?q57h1 ?q57h2 ?q57h3) ?q57B ?q57F ?q57X ?q57N ?q57T ?q57k ?q57d ?q57u ?_; (case q57B => k_asm); (case q57F => k_asm); (case q57X => k_asm); (case q57N => first | k_asm | exact news_swap (by k_asm)); (case q57T => k_asm); (case q57k => first | exact rfl | assumption); (case q57d => ktr_room); (case q57u => ktr_units); (case q57hm => k_mem); (case q57hi => assumption); (case q57hn => first | assumption | k_all); (case q57h1 => k_extra "m_len"); (case q57h2 => k_extra "m_len"); (case q57h3 => k_extra "m_len"); intro v nw h' tk' hP F9 N9; obtain ⟨tt, t', ta, tb, e1, e2, ef, l1, l2⟩ := hP; subst e1; subst e2; (try k_lt2 l1); (try k_lt l2); (try dsimp only); (try k_sweep); (try k_fold))))
  exact True.intro
theorem turn_end {h₀ : Heap} {L : Addr} {s₁ s : Shared} {hh : Heap} {tk : Nat} {rest : (Str → Option Value) → Led → Prop} {Q : Flow → Shared → Prop} {m : Str → Option Value} {text : Str} {tt : Tok} {tv xv : Addr} {lt : Str} {tl : Tok} {i : Nat} {n : Led} {o5 o3 o4 o0 o1 o2 : Obj}
    (hs : s = { s₁ with heap := hh, toks := tk }) (hz : OffZ i n)
    (a : m (Str.ofString "text") = some (.str text tt)) (b : m (Str.ofString "told") = some (.ref tv)) (c : m (Str.ofString "value") = some (.ref xv)) (e : m (Str.ofString "letter") = some (.str lt tl))
    (h : ∀ d, rest (fun y => if y = Str.ofString "due" then some (.ref d) else m y) n) :
    TurnEnd h₀ L (turnMap text tt tv xv lt tl m) s ((i + 5, o5) :: (i + 3, o3) :: (i + 4, o4) :: (i, o0) :: (i + 1, o1) :: (i + 2, o2) :: n) (UnrPostW h₀ L s₁ [(i + 5, o5), (i + 3, o3), (i + 4, o4), (i, o0), (i + 1, o1), (i + 2, o2)] rest Q) := by
  intro d h' tk' F N
  subst hs
  exact ⟨h', tk', _, n, rfl, turn_back a b c e F, N, off_zip hz, h d⟩
section
theorem reg_32 : True := by
  (k_with "m_kne" => (refine neN ?_; (try dsimp only); first | with_reducible assumption | exact Nat.ne_of_gt (by with_reducible assumption) | exact Nat.ne_of_lt (by with_reducible assumption) | omega))
  (k_with "m_off" => first | exact True.intro | (refine And.intro ⟨by k_ne, by k_ne, by k_ne⟩ ?_; k_extra "m_off"))
  (k_with "m_klcgoff" => ((repeat ((with_reducible rename _ ∧ _ => hc); obtain ⟨_, _⟩ := hc)); k_extra "m_off"))
  (k_with "m_kmem" => first | exact List.Mem.head _ | (refine' List.Mem.tail _ ?_; k_mem))
  (k_with "m_len" => ((have hb1 := TF.hn1 (by with_reducible assumption)); (have hb2 := TF.hn2 (by with_reducible assumption)); omega))
  (k_with "m_len" => first | with_reducible assumption | omega)
  (k_with "call_read" => ((with_reducible show wpAny _ _ (call (Value.ref 151) _) _ _ _); k_dflt (refine' Spec.useT (read_spec _ _ _ _ _ ?q90h1 ?q90h2) ?q90B ?q90F ?q90X ?q90N ?q90T ?q90k ?q90d ?q90u ?_; (case q90B => k_asm); (case q90F => k_asm); (case q90X => k_asm); (case q90N => k_asm); (case q90T => k_asm); (case q90k => first | exact rfl | assumption); (case q90d => ktr_room); (case q90u => ktr_units); (case q90h1 => first | exact TF.hR1 (by with_reducible assumption) | exact TF.hR2 (by with_reducible assumption)); (case q90h2 => omega); k_extra "m_afterT")))
  (k_with "call ref" => first | k_extra "call_real" | k_extra "call_read" | k_extra "call_less")
  (k_with "compareOp Eq str str" => (refine' eq_b ?q92a ?_; (case q92a => exact TF.hE (by with_reducible assumption))))
  (k_with "binaryOp Mult int int" => (refine mul_int ?_ (IntMulOk.of_bits (bits_le ?q93a ?q93b) (bits_le ?q93c ?q93d)); (case q93a => omega); (case q93b => omega); (case q93c => omega); (case q93d => omega)))
  (k_with "CompSrcT" => (k_here; k_dflt (refine CompSrcT.ledger (by rfl) (by k_asm) (by k_asm) (by k_mem) (by first | size_fits | exact Nat.le_of_ble_eq_true rfl) ?_; intro g'; lcg_lit)))
  (k_with "exec Assign cons ListComp" => (k_here; lcf_look; k_dflt (refine Assign_ListComp_Tup (F₀ := by k_asm) (by rfl) (by with_unfolding_all rfl) (by with_unfolding_all rfl) (by decide) (by rfl) (by decide) (by rfl) (by rfl) (by rfl) ?_)))
  (k_with "exec For Tuple Call cons nil" => (k_here; ((with_reducible rename Fr _ _ _ _ => lF')); (with_unfolding_all refine' For_turns lF' ?_); k_whole))
  (k_with "call type:zip" => (k_here; ((with_reducible rename Fr _ _ _ _ => lF')); ((with_reducible rename News _ _ _ _ => lN')); (with_unfolding_all refine' zip3_turns (by rfl) lF' lN' (by k_mem) (by rfl) (by rfl) (by k_mem) (by rfl) (by rfl) (by k_mem) (by rfl) (by rfl) ?_); clear lF' lN'; intro i' l1; (have hoz' := OffZ.mk (allLt_of l1)); (try k_lt l1)))
  (k_with "Rest3" => first | ((with_unfolding_all refine Rest3.succ (fun T' h' tk' hT' F' => ?_)); (try dsimp only at hT'); ktu_objs) | (with_unfolding_all refine Rest3.zero (fun h' tk' F' N' => ?_)))
  (k_with "m_rmem" => first | with_reducible exact List.mem_cons_self | ((with_reducible refine List.mem_cons_of_mem _ ?_); k_extra "m_rmem"))
  (k_with "subscriptTail Name Constant ref int" => (first | ((with_reducible show wpAny _ _ (subscriptTail _ _ (Value.ref _) (Value.int 0 _)) _ _ _); k_dflt (refine' tup_fst ?q100a ?q100b ?_ ?q100c; (case q100a => k_asm); (case q100b => k_extra "m_rmem"); (case q100c => with_unfolding_all rfl); k_whole)) | ((with_reducible show wpAny _ _ (subscriptTail _ _ (Value.ref _) (Value.int 1 _)) _ _ _); k_dflt (refine' tup_snd ?q100a ?q100b ?_ ?q100c; (case q100a => k_asm); (case q100b => k_extra "m_rmem"); (case q100c => with_unfolding_all rfl); k_whole)) | ((with_reducible show wpAny _ _ (subscriptTail _ _ (Value.ref _) (Value.int 0 _)) _ _ _); k_dflt (refine' lst_fst ?q100a ?q100b ?_ ?q100c; (case q100a => k_asm); (case q100b => k_extra "m_rmem"); (case q100c => with_unfolding_all rfl); k_whole)) | ((with_reducible show wpAny _ _ (subscriptTail _ _ (Value.ref _) (Value.int 1 _)) _ _ _); k_dflt (refine' lst_snd ?q100a ?q100b ?_ ?q100c; (case q100a => k_asm); (case q100b => k_extra "m_rmem"); (case q100c => with_unfolding_all rfl); k_whole))))
  (k_with "subscriptTail Call" => (first | ((with_reducible show wpAny _ _ (subscriptTail _ _ (Value.ref _) (Value.int 0 _)) _ _ _); k_dflt (refine' tup_fst ?q101a ?q101b ?_ ?q101c; (case q101a => k_asm); (case q101b => k_extra "m_rmem"); (case q101c => with_unfolding_all rfl); k_whole)) | ((with_reducible show wpAny _ _ (subscriptTail _ _ (Value.ref _) (Value.int 1 _)) _ _ _); k_dflt (refine' tup_snd ?q101a ?q101b ?_ ?q101c; (case q101a => k_asm); (case q101b => k_extra "m_rmem"); (case q101c => with_unfolding_all rfl); k_whole)) | ((with_reducible show wpAny _ _ (subscriptTail _ _ (Value.ref _) (Value.int 0 _)) _ _ _); k_dflt (refine' lst_fst ?q101a ?q101b ?_ ?q101c; (case q101a => k_asm); (case q101b => k_extra "m_rmem"); (case q101c => with_unfolding_all rfl); k_whole)) | ((with_reducible show wpAny _ _ (subscriptTail _ _ (Value.ref _) (Value.int 1 _)) _ _ _); k_dflt (refine' lst_snd ?q101a ?q101b ?_ ?q101c; (case q101a => k_asm); (case q101b => k_extra "m_rmem"); (case q101c => with_unfolding_all rfl); k_whole))))
  (k_with "execs cons" => ((with_reducible show wpAny _ _ (execs (Stmt.Assign [Expr.Name (Str.ofString "due") _] _ _ :: _) _) _ _ _); (with_reducible rename OffZ _ _ => hoz); k_dflt (refine' turn_walk ?q102hsc ?q102hbody ?q102B (turn_shape ?q102F ?q102a ?q102b ?q102c ?q102e) ?q102X ?q102N ?q102T ?q102hd ?q102hu ?q102hoi ?q102hos ?q102mi ?q102mci ?q102mcs ?q102mt ?q102mx ?q102hr ?q102hk ?q102hp ?q102hp' ?q102hs ?q102hs' ?q102hv ?q102hv' ?q102he ?q102he' ?q102H (turn_end ?q102h1 hoz ?q102a2 ?q102b2 ?q102c2 ?q102e2 ?_); (case q102B => k_asm); (case q102F => k_asm); (case q102a => exact rfl); (case q102b => exact rfl); (case q102c => exact rfl); (case q102e => exact rfl); (case q102X => k_asm); (case q102N => k_asm); (case q102T => k_asm); (case q102hoi => with_reducible assumption); (case q102hos => with_reducible assumption); (case q102mi => k_extra "m_rmem"); (case q102mci => k_extra "m_rmem"); (case q102mcs => k_extra "m_rmem"); (case q102mt => k_extra "m_rmem"); (case q102mx => k_extra "m_rmem"); (case q102H => first | exact TF.t1 (by with_reducible assumption) | exact TF.t2 (by with_reducible assumption)); (case q102hd => ktr_room); (case q102hu => ktr_units); (case q102hsc => rfl); (case q102hbody => rfl); (case q102hr => with_reducible assumption); (case q102hk => with_reducible assumption); (case q102hp => with_reducible assumption); (case q102hp' => with_reducible assumption); (case q102hs => with_reducible assumption); (case q102hs' => with_reducible assumption); (case q102hv => with_reducible assumption); (case q102hv' => with_reducible assumption); (case q102he => with_reducible assumption); (case q102he' => with_reducible assumption); (case q102h1 => exact rfl); (case q102a2 => exact rfl); (case q102b2 => exact rfl); (case q102c2 => exact rfl); (case q102e2 => exact rfl)); intro d; k_dflt (refine ⟨by k_subL, ?_⟩)))
  exact True.intro
theorem tail_walk {w : World} (sc : Scope) (body : List Stmt) (hsc : sc = lawScope) (hbody : body = lawBody.drop 10) (loose : List Str) (mean : ExcName → Option Value) (mg mb : Str → Option Value) (dp un : Nat) (gd : Option (List Code)) (cn : Str) (a : Addr) (ccd : Value) (ci cs : Addr) (outer : List Env) (A₀ : Around) (base h₀ : Heap) (L : Addr) (m : Str → Option Value) (s : Shared) (Q : Flow → Shared → Prop) (E1 : Value → Shared → Prop)
    (B : Below A₀ base outer h₀) (x1 x2 ia : Addr) (v1 e1 v2 e2 places k scale : Int) (kind : Nat) (items : List Value) (lt : Str) (u1 u2 u3 u4 u5 u6 : Tok) (oi os : Obj)
    (F : Fr h₀ L s.heap (fun y => if y = Str.ofString "one" then some (.ref x1) else if y = Str.ofString "two" then some (.ref x2) else if y = Str.ofString "letter" then some (.str lt u6) else m y))
    (X : (hd.heap_39 w.params).In h₀) (N : News h₀ L s.heap [(x1, tup [.int v1 u1, .int e1 u2]), (x2, tup [.int v2 u3, .int e2 u4]), (ia, tup items), (ci, oi), (cs, os)]) (T : Top hd.view_39 loose mean mg mb h₀)
    (hd : dp + 20 < recursionLimit) (hu : un + 8 * 20 < cLine)
    (hoi : oi.data = .cell (some (.ref ia))) (hos : os.data = .cell (some (.int scale u5)))
    (hr : ItemR places k kind items) (hk : 2 ≤ k ∧ k ≤ 3) (hp : 1 ≤ places) (hp' : places ≤ 9) (hs : -places < scale) (hs' : scale ≤ places + 1)
    (hv1 : -10 ^ 10 ≤ v1) (hv1' : v1 ≤ 10 ^ 10) (he1 : -15 ≤ e1) (he1' : e1 ≤ 10)
    (hv2 : -10 ^ 10 ≤ v2) (hv2' : v2 ≤ 10 ^ 10) (he2 : -15 ≤ e2) (he2' : e2 ≤ 10)
    (n1 f1 n2 f2 : Int) (isF bE : Bool) (H : TF kind v1 e1 v2 e2 places k scale n1 f1 n2 f2 lt isF bE)
    (hret : ∀ h' tk' m' news', Fr h₀ L h' m' → News h₀ L h' news' → Q (.ret (.bool true)) { s with heap := h', toks := tk' }) :
    wpAny (model PySem.Challenge.pw_no0231_01 w) (ktrTop dp un gd cn sc L a ccd [(Str.ofString "item", ci), (Str.ofString "scale", cs)] outer) (execs (body) (envX cn sc L a ccd [(Str.ofString "item", ci), (Str.ofString "scale", cs)])) Q
      (fun e s' => wpAny (model PySem.Challenge.pw_no0231_01 w) (ktrTop dp un gd cn sc L a ccd [(Str.ofString "item", ci), (Str.ofString "scale", cs)] outer) (leaving (envX cn sc L a ccd [(Str.ofString "item", ci), (Str.ofString "scale", cs)]) e) (fun _ s'' => E1 e s'') (fun e' s'' => E1 e' s'') s') s := by
  k_extra "m_fill"
  conv at hsc => rhs; whnf
  conv at hbody => rhs; whnf
  subst hsc
  subst hbody
  all_goals k_steps
  all_goals first
    | exact end_true (TF.hO H (by with_reducible assumption)) (hret _ _ _ _ (by k_asm) (by k_asm))
    | exact end_true (decide_eq_true (TF.hM H)) (hret _ _ _ _ (by k_asm) (by k_asm))

end
end
section
theorem reg_33 : True := by
  k_with_none
  (k_with "m_mem" => first | assumption | exact List.Mem.head _ | (refine' List.Mem.tail _ ?_; k_extra "m_mem"))
  (k_with "m_kmem" => assumption)
  (k_with "m_fill" => ((have mfill : PySem.Challenge.rw_no0231_01 = PySem.Challenge.rw_no0231_01 ∧ _root_.Mine.hd.heap_39 = _root_.Mine.hd.heap_39 := by (k_fill; exact ⟨rfl, rfl⟩)); clear mfill))
  (k_with "m_start" => (k_extra "m_fill"; unfold Spec; intros; refine wpAny_call ?_; k_dflt cell_enter))
  (k_with "m_news" => first | with_reducible assumption | (refine cb_drop (by with_reducible assumption) (fun p hp => .tail _ hp)) | (refine cb_drop (by with_reducible assumption) (fun p hp => .tail _ (.tail _ hp))) | (refine cb_drop (by with_reducible assumption) (fun p hp => .tail _ (.tail _ (.tail _ hp)))) | k_asm)
  (k_with "m_ifs" => (repeat' split) <;> first | rfl | (exfalso; first | contradiction | omega | simp_all))
  (k_with "m_after" => (intro t h' tk' ef F9 N9; (try dsimp only); (try k_fold)))
  (k_with "m_afterT" => (intro t ta tb h' tk' ef F9 N9 l1; (try k_lt l1); (try dsimp only); (try k_sweep); (try k_fold)))
  (k_with "m_len" => first | assumption | omega | ((try simp only [Str.length_append, lenA, lenB, lenC, lenD, lenE, lenF, lenG, lenH] at *); omega) | size_fits | l_fact)
  (k_with "call_field" => ((with_reducible show wpAny _ _ (call (Value.ref 60) _) _ _ _); k_dflt (refine' Spec.useV (field_spec _ _ _ _ _ ?q11h1 ?q11h2 ?q11h3) ?q11B ?q11F ?q11X ?q11N ?q11T ?q11k ?q11d ?q11u ?_; (case q11B => k_asm); (case q11F => k_asm); (case q11X => k_asm); (case q11N => k_asm); (case q11T => k_asm); (case q11k => first | exact rfl | assumption); (case q11d => ktr_room); (case q11u => ktr_units); (case q11h1 => k_extra "m_len"); (case q11h2 => k_extra "m_len"); (case q11h3 => k_extra "m_len"); k_extra "m_after")))
  (k_with "call_scaled" => ((with_reducible show wpAny _ _ (call (Value.ref 74) _) _ _ _); k_dflt (refine' Spec.useV (scaled_spec _ _ _ _ _ ?q13h1 ?q13h2 ?q13h3 ?q13h4) ?q13B ?q13F ?q13X ?q13N ?q13T ?q13k ?q13d ?q13u ?_; (case q13B => k_asm); (case q13F => k_asm); (case q13X => k_asm); (case q13N => k_asm); (case q13T => k_asm); (case q13k => first | exact rfl | assumption); (case q13d => ktr_room); (case q13u => ktr_units); (case q13h1 => k_extra "m_len"); (case q13h2 => k_extra "m_len"); (case q13h3 => k_extra "m_len"); (case q13h4 => k_extra "m_len"); k_extra "m_after")))
  (k_with "call_sign" => ((with_reducible show wpAny _ _ (call (Value.ref 67) _) _ _ _); k_dflt (refine' Spec.useV (sign_spec _ _ _) ?q14B ?q14F ?q14X ?q14N ?q14T ?q14k ?q14d ?q14u ?_; (case q14B => k_asm); (case q14F => k_asm); (case q14X => k_asm); (case q14N => k_asm); (case q14T => k_asm); (case q14k => first | exact rfl | assumption); (case q14d => ktr_room); (case q14u => ktr_units); k_extra "m_after")))
  (k_with "call_point" => ((with_reducible show wpAny _ _ (call (Value.ref 81) _) _ _ _); k_dflt (refine' Spec.useV (point_spec _ _ _ _ _ _ _ _ _ ?q15h1 ?q15h2 ?q15h3 ?q15h4 ?q15h5) ?q15B ?q15F ?q15X ?q15N ?q15T ?q15k ?q15d ?q15u ?_; (case q15B => k_asm); (case q15F => k_asm); (case q15X => k_asm); (case q15N => k_asm); (case q15T => k_asm); (case q15k => first | exact rfl | assumption); (case q15d => ktr_room); (case q15u => ktr_units); (case q15h1 => k_extra "m_len"); (case q15h2 => k_extra "m_len"); (case q15h3 => k_extra "m_len"); (case q15h4 => k_extra "m_len"); (case q15h5 => k_extra "m_len"); k_extra "m_after")))
  (k_with "call_str" => ((with_reducible show wpAny _ _ (call (Value.type "str") [Value.int _ _]) _ _ _); refine str_int ?q16h1 ?q16h2 ?_; (case q16h1 => k_extra "m_len"); (case q16h2 => k_extra "m_len"); intro ef; (try dsimp only); (try k_fold)))
  (k_with "call_fixed" => ((with_reducible show wpAny _ _ (call (Value.ref 88) _) _ _ _); k_dflt (refine' Spec.useV (edit_fixed_spec _ _ _ _ _ _ _ _ _ _ _ _ _ ?q21hm ?q21h1 ?q21h2 ?q21h3 ?q21h4 ?q21h5 ?q21h6 ?q21h7 ?q21h8 ?q21h9 ?q21h10) ?q21B ?q21F ?q21X ?q21N ?q21T ?q21k ?q21d ?q21u ?_; (case q21B => k_asm); (case q21F => k_asm); (case q21X => k_asm); (case q21N => k_asm); (case q21T => k_asm); (case q21k => first | exact rfl | assumption); (case q21d => ktr_room); (case q21u => ktr_units); (case q21hm => k_extra "m_mem"); (case q21h1 => k_extra "m_len"); (case q21h2 => k_extra "m_len"); (case q21h3 => k_extra "m_len"); (case q21h4 => k_extra "m_len"); (case q21h5 => k_extra "m_len"); (case q21h6 => k_extra "m_len"); (case q21h7 => k_extra "m_len"); (case q21h8 => k_extra "m_len"); (case q21h9 => k_extra "m_len"); (case q21h10 => k_extra "m_len"); k_extra "m_after")))
  (k_with "call_lead" => ((with_reducible show wpAny _ _ (call (Value.ref 95) _) _ _ _); k_dflt (refine' Spec.useT (leading_spec _ _ _ _ _ _ _ _ ?q25hm ?q25h1 ?q25h2 ?q25h3 ?q25h4 ?q25h5 ?q25h6) ?q25B ?q25F ?q25X ?q25N ?q25T ?q25k ?q25d ?q25u ?_; (case q25B => k_asm); (case q25F => k_asm); (case q25X => k_asm); (case q25N => k_asm); (case q25T => k_asm); (case q25k => first | exact rfl | assumption); (case q25d => ktr_room); (case q25u => ktr_units); (case q25hm => k_extra "m_mem"); (case q25h1 => k_extra "m_len"); (case q25h2 => k_extra "m_len"); (case q25h3 => k_extra "m_len"); (case q25h4 => k_extra "m_len"); (case q25h5 => k_extra "m_len"); (case q25h6 => k_extra "m_len"); k_extra "m_afterT")))
  (k_with "call_exponent" => ((with_reducible show wpAny _ _ (call (Value.ref 102) _) _ _ _); k_dflt (refine' Spec.useV (exponent_spec _ _ _ _ _ _ _ ?q26h1 ?q26h2 ?q26h3 ?q26h4) ?q26B ?q26F ?q26X ?q26N ?q26T ?q26k ?q26d ?q26u ?_; (case q26B => k_asm); (case q26F => k_asm); (case q26X => k_asm); (case q26N => k_asm); (case q26T => k_asm); (case q26k => first | exact rfl | assumption); (case q26d => ktr_room); (case q26u => ktr_units); (case q26h4 => k_asm); (case q26h1 => k_extra "m_len"); (case q26h2 => k_extra "m_len"); (case q26h3 => k_extra "m_len"); k_extra "m_after")))
  (k_with "call_exp" => ((with_reducible show wpAny _ _ (call (Value.ref 109) _) _ _ _); k_dflt (refine' Spec.useV (edit_exp_spec _ _ _ _ _ _ _ _ _ _ _ _ _ _ _ _ _ ?q31hm ?q31h1 ?q31h2 ?q31h3 ?q31h4 ?q31h5 ?q31h6 ?q31h7 ?q31h8 ?q31h9 ?q31hz ?q31h10 ?q31h11) ?q31B ?q31F ?q31X ?q31N ?q31T ?q31k ?q31d ?q31u ?_; (case q31B => k_asm); (case q31F => k_asm); (case q31X => k_asm); (case q31N => k_asm); (case q31T => k_asm); (case q31k => first | exact rfl | assumption); (case q31d => ktr_room); (case q31u => ktr_units); (case q31hm => k_extra "m_mem"); (case q31hz => k_asm); (case q31h1 => k_extra "m_len"); (case q31h2 => k_extra "m_len"); (case q31h3 => k_extra "m_len"); (case q31h4 => k_extra "m_len"); (case q31h5 => k_extra "m_len"); (case q31h6 => k_extra "m_len"); (case q31h7 => k_extra "m_len"); (case q31h8 => k_extra "m_len"); (case q31h9 => k_extra "m_len"); (case q31h10 => k_extra "m_len"); (case q31h11 => k_extra "m_len"); k_extra "m_after")))
  (k_with "call_isgen" => ((with_reducible show wpAny _ _ (call (Value.ref 116) _) _ _ _); k_dflt (refine' Spec.useV (is_general_spec _ _ _ _ _ _ _ _ ?q33hm ?q33h1 ?q33h2 ?q33h3 ?q33h4 ?q33h5 ?q33h6) ?q33B ?q33F ?q33X ?q33N ?q33T ?q33k ?q33d ?q33u ?_; (case q33B => k_asm); (case q33F => k_asm); (case q33X => k_asm); (case q33N => k_asm); (case q33T => k_asm); (case q33k => first | exact rfl | assumption); (case q33d => ktr_room); (case q33u => ktr_units); (case q33hm => k_extra "m_mem"); (case q33h1 => k_extra "m_len"); (case q33h2 => k_extra "m_len"); (case q33h3 => k_extra "m_len"); (case q33h4 => k_extra "m_len"); (case q33h5 => k_extra "m_len"); (case q33h6 => k_extra "m_len"); k_extra "m_after")))
  (k_with "call_general" => ((with_reducible show wpAny _ _ (call (Value.ref 123) _) _ _ _); k_dflt (refine' Spec.useV (edit_general_spec _ _ _ _ _ _ _ _ _ _ _ _ _ _ _ ?q40hm ?q40h1 ?q40h2 ?q40h3 ?q40h4 ?q40h5 ?q40h6 ?q40h7 ?q40h8 ?q40hz ?q40h9 ?q40h10) ?q40B ?q40F ?q40X ?q40N ?q40T ?q40k ?q40d ?q40u ?_; (case q40B => k_asm); (case q40F => k_asm); (case q40X => k_asm); (case q40N => k_asm); (case q40T => k_asm); (case q40k => first | exact rfl | assumption); (case q40d => ktr_room); (case q40u => ktr_units); (case q40hm => k_extra "m_mem"); (case q40hz => k_asm); (case q40h1 => k_extra "m_len"); (case q40h2 => k_extra "m_len"); (case q40h3 => k_extra "m_len"); (case q40h4 => k_extra "m_len"); (case q40h5 => k_extra "m_len"); (case q40h6 => k_extra "m_len"); (case q40h7 => k_extra "m_len"); (case q40h8 => k_extra "m_len"); (case q40h9 => k_extra "m_len"); (case q40h10 => k_extra "m_len"); k_extra "m_after")))
  (k_with "call_real" => ((with_reducible show wpAny _ _ (call (Value.ref 130) _) _ _ _); k_dflt (refine' Spec.useV (edit_real_spec _ _ _ _ _ _ _ _ _ _ _ _ _ ?q44hm ?q44hi ?q44hr ?q44hk ?q44h1 ?q44h2 ?q44h3 ?q44h4 ?q44h5 ?q44h6 ?q44h7 ?q44h8) ?q44B ?q44F ?q44X ?q44N ?q44T ?q44k ?q44d ?q44u ?_; (case q44B => k_asm); (case q44F => k_asm); (case q44X => k_asm); (case q44N => k_asm); (case q44T => k_asm); (case q44k => first | exact rfl | assumption); (case q44d => ktr_room); (case q44u => ktr_units); (case q44hm => k_extra "m_mem"); (case q44hr => assumption); (case q44hi => k_extra "m_mem"); (case q44hk => k_asm); (case q44h1 => k_extra "m_len"); (case q44h2 => k_extra "m_len"); (case q44h3 => k_extra "m_len"); (case q44h4 => k_extra "m_len"); (case q44h5 => k_extra "m_len"); (case q44h6 => k_extra "m_len"); (case q44h7 => k_extra "m_len"); (case q44h8 => k_extra "m_len"); k_extra "m_after")))
  (k_with "call_less" => ((with_reducible show wpAny _ _ (call (Value.ref 158) _) _ _ _); k_dflt (refine' Spec.useT (less_spec _ _ _ _ _ _ _ _ _ _ _ ?q47hm ?q47hm2 ?q47h1 ?q47h2 ?q47h3 ?q47h4 ?q47h5 ?q47h6 ?q47h7 ?q47h8) ?q47B ?q47F ?q47X ?q47N ?q47T ?q47k ?q47d ?q47u ?_; (case q47B => k_asm); (case q47F => k_asm); (case q47X => k_asm); (case q47N => k_asm); (case q47T => k_asm); (case q47k => first | exact rfl | assumption); (case q47d => ktr_room); (case q47u => ktr_units); (case q47hm => k_extra "m_mem"); (case q47hm2 => k_extra "m_mem"); (case q47h1 => k_extra "m_len"); (case q47h2 => k_extra "m_len"); (case q47h3 => k_extra "m_len"); (case q47h4 => k_extra "m_len"); (case q47h5 => k_extra "m_len"); (case q47h6 => k_extra "m_len"); (case q47h7 => k_extra "m_len"); (case q47h8 => k_extra "m_len"); k_extra "m_afterT")))
  (k_with "call_near" => ((with_reducible show wpAny _ _ (call (Value.ref 165) _) _ _ _); k_dflt (refine' Spec.useV (near_spec _ _ _ _ _ _ _ _ _ _ _ ?q51hm ?q51hm2 ?q51h1 ?q51h2 ?q51h3 ?q51h4 ?q51h5 ?q51h6 ?q51h7 ?q51h8) ?q51B ?q51F ?q51X ?q51N ?q51T ?q51k ?q51d ?q51u ?_; (case q51B => k_asm); (case q51F => k_asm); (case q51X => k_asm); (case q51N => k_asm); (case q51T => k_asm); (case q51k => first | exact rfl | assumption); (case q51d => ktr_room); (case q51u => ktr_units); (case q51hm => k_extra "m_mem"); (case q51hm2 => k_extra "m_mem"); (case q51h1 => k_extra "m_len"); (case q51h2 => k_extra "m_len"); (case q51h3 => k_extra "m_len"); (case q51h4 => k_extra "m_len"); (case q51h5 => k_extra "m_len"); (case q51h6 => k_extra "m_len"); (case q51h7 => k_extra "m_len"); (case q51h8 => k_extra "m_len"); k_extra "m_after")))
  (k_with "call_turned" => ((with_reducible show wpAny _ _ (call (Value.ref 172) _) _ _ _); k_dflt (refine' Spec.useV (turned_spec _ _ _ ?q52h1 ?q52h2) ?q52B ?q52F ?q52X ?q52N ?q52T ?q52k ?q52d ?q52u ?_; (case q52B => k_asm); (case q52F => k_asm); (case q52X => k_asm); (case q52N => k_asm); (case q52T => k_asm); (case q52k => first | exact rfl | assumption); (case q52d => ktr_room); (case q52u => ktr_units); (case q52h1 => k_extra "m_len"); (case q52h2 => k_extra "m_len"); k_extra "m_after")))
  (k_with "call_draw" => ((with_reducible show wpAny _ _ (call (Value.ref 137) _) _ _ _); k_dflt (refine' Spec.use (draw_spec _ _ _ _ _ _ _ _ _ _ ?q55hm ?q55hi ?q55hn ?q55h1 ?q55h2 ?q55h3 ?q55h4 ?q55h5) ?q55B ?q55F ?q55X ?q55N ?q55T ?q55k ?q55d ?q55u ?_; (case q55B => k_asm); (case q55F => k_asm); (case q55X => k_asm); (case q55N => first | k_asm | exact news_swap (by k_asm)); (case q55T => k_asm); (case q55k => first | exact rfl | assumption); (case q55d => ktr_room); (case q55u => ktr_units); (case q55hm => k_mem); (case q55hi => assumption); (case q55hn => first | assumption | k_all); (case q55h1 => k_extra "m_len"); (case q55h2 => k_extra "m_len"); (case q55h3 => k_extra "m_len"); (case q55h4 => k_extra "m_len"); (case q55h5 => k_extra "m_len"); intro v nw h' tk' hP F9 N9; obtain ⟨t', tv, e1, e2, ef1, ef2⟩ := hP; subst e1; subst e2; (try dsimp only); (try k_sweep); (try k_fold))))
  (k_with "call_lreal" => ((with_reducible show wpAny _ _ (call (Value.ref 144) _) _ _ _); k_dflt (refine' Spec.use (real_spec _ _ _ _ _ _ _ _ ?q57hm ?q57hi ?q57hn ?q57h1 ?q57h2 ?q57h3) ?q57B ?q57F ?q57X ?q57N ?q57T ?q57k ?q57d ?q57u ?_; (case q57B => k_asm); (case q57F => k_asm); (case q57X => k_asm); (case q57N => first | k_asm | exact news_swap (by k_asm)); (case q57T => k_asm); (case q57k => first | exact rfl | assumption); (case q57d => ktr_room); (case q57u => ktr_units); (case q57hm => k_mem); (case q57hi => assumption); (case q57hn => first | assumption | k_all); (case q57h1 => k_extra "m_len"); (case q57h2 => k_extra "m_len"); (case q57h3 => k_extra "m_len"); intro v nw h' tk' hP F9 N9; obtain ⟨tt, t', ta, tb, e1, e2, ef, l1, l2⟩ := hP; subst e1; subst e2; (try k_lt2 l1); (try k_lt l2); (try dsimp only); (try k_sweep); (try k_fold))))
  exact True.intro
theorem four {P : Int → Prop} {q : Int} (h0 : 0 ≤ q) (h4 : q < 4) (a : P 0) (b : P 1) (c : P 2) (d : P 3) : P q := by
  rcases (show q = 0 ∨ q = 1 ∨ q = 2 ∨ q = 3 by omega) with rfl | rfl | rfl | rfl <;> assumption
theorem fedg : Txt.item (Str.ofString "FEDG") 0 = Str.ofString "F" ∧ Txt.item (Str.ofString "FEDG") 1 = Str.ofString "E" ∧ Txt.item (Str.ofString "FEDG") 2 = Str.ofString "D" ∧ Txt.item (Str.ofString "FEDG") 3 = Str.ofString "G" := by decide +kernel
theorem fedg_F {q : Int} (h0 : 0 ≤ q) (h4 : q < 4) : (Txt.item (Str.ofString "FEDG") q == Str.ofString "F") = decide (q.toNat = 0) :=
  four (P := fun q => (Txt.item (Str.ofString "FEDG") q == Str.ofString "F") = decide (q.toNat = 0)) h0 h4 (by decide +kernel) (by decide +kernel) (by decide +kernel) (by decide +kernel)
open PySem.Builtin PySem.Builtin.Str in
theorem kinds_EG {q places k : Int} {sz : Value} {t1 t2 t3 : Tok} (h0 : 0 ≤ q) (h4 : q < 4) (h : (occurrences (Str.ofString "EG") (Txt.item (Str.ofString "FEDG") q) 0 (Str.ofString "EG").length 1).isEmpty = false) (hz : SzV sz k) :
    ItemR places k q.toNat [.str (Txt.item (Str.ofString "FEDG") q) t1, .int 44 t2, .int places t3, sz] := by
  obtain ⟨f0, f1, f2, f3⟩ := fedg
  rcases (show q = 0 ∨ q = 1 ∨ q = 2 ∨ q = 3 by omega) with rfl | rfl | rfl | rfl
  · exact absurd h (by decide +kernel)
  · rw [f1]; exact .e t1 t2 t3 sz hz
  · exact absurd h (by decide +kernel)
  · rw [f3]; exact .g t1 t2 t3 sz hz
open PySem.Builtin PySem.Builtin.Str in
theorem kinds_FD {q places : Int} {t1 t2 t3 : Tok} (h0 : 0 ≤ q) (h4 : q < 4) (h : (occurrences (Str.ofString "EG") (Txt.item (Str.ofString "FEDG") q) 0 (Str.ofString "EG").length 1).isEmpty = true) :
    ItemR places 2 q.toNat [.str (Txt.item (Str.ofString "FEDG") q) t1, .int 44 t2, .int places t3] := by
  obtain ⟨f0, f1, f2, f3⟩ := fedg
  rcases (show q = 0 ∨ q = 1 ∨ q = 2 ∨ q = 3 by omega) with rfl | rfl | rfl | rfl
  · rw [f0]; exact .f t1 t2 t3
  · exact absurd h (by decide +kernel)
  · rw [f2]; exact .d t1 t2 t3 (.inl ⟨rfl, rfl⟩)
  · exact absurd h (by decide +kernel)
theorem tail_use {w : World} {sc : Scope} {body : List Stmt} {loose : List Str} {mean : ExcName → Option Value} {mg mb : Str → Option Value} {dp un : Nat} {gd : Option (List Code)} {cn : Str} {a : Addr} {ccd : Value} {ci cs : Addr} {outer : List Env} {A₀ : Around} {base h₀ : Heap} {L : Addr} {m : Str → Option Value} {s : Shared} {Q : Flow → Shared → Prop} {E1 : Value → Shared → Prop}
    {x1 x2 ia : Addr} {v1 e1 v2 e2 places k scale q : Int} {items : List Value} {u1 u2 u3 u4 u5 u6 : Tok} {oi os : Obj} {news : Led}
    (hsc : sc = lawScope) (hbody : body = lawBody.drop 10) (B : Below A₀ base outer h₀) (F : Fr h₀ L s.heap m) (X : (hd.heap_39 w.params).In h₀) (N : News h₀ L s.heap news) (T : Top hd.view_39 loose mean mg mb h₀)
    (b1 : m (Str.ofString "one") = some (.ref x1)) (b2 : m (Str.ofString "two") = some (.ref x2)) (b3 : m (Str.ofString "letter") = some (.str (Txt.item (Str.ofString "FEDG") q) u6))
    (hoi : oi.data = .cell (some (.ref ia))) (hos : os.data = .cell (some (.int scale u5))) (m4 : (ci, oi) ∈ news) (m5 : (cs, os) ∈ news)
    (m1 : (x1, tup [.int v1 u1, .int e1 u2]) ∈ news) (m2 : (x2, tup [.int v2 u3, .int e2 u4]) ∈ news) (m3 : (ia, tup items) ∈ news)
    (hd : dp + 20 < recursionLimit) (hu : un + 8 * 20 < cLine)
    (hr : ItemR places k q.toNat items) (hq : 0 ≤ q) (hq' : q < 4) (hk : 2 ≤ k ∧ k ≤ 3) (hp : 1 ≤ places) (hp' : places ≤ 9) (hs : -places < scale) (hs' : scale ≤ places + 1)
    (hv1 : -10 ^ 10 ≤ v1) (hv1' : v1 ≤ 10 ^ 10) (he1 : -15 ≤ e1) (he1' : e1 ≤ 10)
    (hv2 : -10 ^ 10 ≤ v2) (hv2' : v2 ≤ 10 ^ 10) (he2 : -15 ≤ e2) (he2' : e2 ≤ 10)
    (hret : ∀ h' tk' m' news', Fr h₀ L h' m' → News h₀ L h' news' → Q (.ret (.bool true)) { s with heap := h', toks := tk' }) :
    wpAny (model PySem.Challenge.pw_no0231_01 w) (ktrTop dp un gd cn sc L a ccd [(Str.ofString "item", ci), (Str.ofString "scale", cs)] outer) (execs (body) (envX cn sc L a ccd [(Str.ofString "item", ci), (Str.ofString "scale", cs)])) Q
      (fun e s' => wpAny (model PySem.Challenge.pw_no0231_01 w) (ktrTop dp un gd cn sc L a ccd [(Str.ofString "item", ci), (Str.ofString "scale", cs)] outer) (leaving (envX cn sc L a ccd [(Str.ofString "item", ci), (Str.ofString "scale", cs)]) e) (fun _ s'' => E1 e s'') (fun e' s'' => E1 e' s'') s') s := by
  obtain ⟨n1, f1, n2, f2, isF, bE, H⟩ := make_TF (kind := q.toNat) (v1 := v1) (e1 := e1) (v2 := v2) (e2 := e2) (places := places) (k := k) (scale := scale) (lt := Txt.item (Str.ofString "FEDG") q) (by omega) (fedg_F hq hq') hk.1 hk.2 hv1 hv1' he1 he1' hv2 hv2' he2 he2' hp hp' hs hs'
  have hm : m = (fun y => if y = Str.ofString "one" then some (.ref x1) else if y = Str.ofString "two" then some (.ref x2) else if y = Str.ofString "letter" then some (.str (Txt.item (Str.ofString "FEDG") q) u6) else m y) := by
    funext y
    split
    · rename_i h; rw [h, b1]
    · split
      · rename_i h; rw [h, b2]
      · split
        · rename_i h; rw [h, b3]
        · rfl
  rw [hm] at F
  refine tail_walk sc body hsc hbody loose mean mg mb dp un gd cn a ccd ci cs outer A₀ base h₀ L m s Q E1 B x1 x2 ia v1 e1 v2 e2 places k scale q.toNat items _ u1 u2 u3 u4 u5 u6 oi os F X (fun p hp => N p ?_) T hd hu hoi hos hr hk hp hp' hs hs' hv1 hv1' he1 he1' hv2 hv2' he2 he2' n1 f1 n2 f2 isF bE H hret
  simp only [List.mem_cons, List.not_mem_nil, or_false] at hp
  rcases hp with rfl | rfl | rfl | rfl | rfl <;> assumption
section
theorem reg_34 : True := by
  (k_with "call ref" => k_extra "call_draw")
  (k_with "call ref" => k_extra "call_lreal")
  (k_with "subscriptTail" => ((with_reducible show wpAny _ _ (subscriptTail _ _ (Value.ref _) (Value.int _ _)) _ _ _); k_dflt (refine' list_item ?q105a ?q105b ?q105c ?_; (case q105a => exact News.isList (by k_asm) (by k_mem)); (case q105b => with_reducible assumption); (case q105c => with_reducible assumption); k_whole); intro sz hsz; (try dsimp only)))
  (k_with "execs cons" => ((with_reducible show wpAny _ _ (execs (Stmt.Assign [Expr.Name (Str.ofString "texts") _] _ _ :: _) _) _ _ _); k_extra "m_tail"))
  (k_with "m_tail" => (k_dflt (refine' tail_use ?q107hsc ?q107hbody ?q107B ?q107F ?q107X ?q107N ?q107T ?q107b1 ?q107b2 ?q107b3 ?q107hoi ?q107hos ?q107m4 ?q107m5 ?q107m1 ?q107m2 ?q107m3 ?q107hd ?q107hu ?q107hr ?q107hq ?q107hq' ?q107hk ?q107hp ?q107hp' ?q107hs ?q107hs' ?q107hv1 ?q107hv1' ?q107he1 ?q107he1' ?q107hv2 ?q107hv2' ?q107he2 ?q107he2' ?_; (case q107B => k_asm); (case q107F => k_asm); (case q107X => k_asm); (case q107N => k_asm); (case q107T => k_asm); (case q107b1 => exact rfl); (case q107b2 => exact rfl); (case q107b3 => exact rfl); (case q107hoi => with_reducible assumption); (case q107hos => with_reducible assumption); (case q107m4 => k_mem); (case q107m5 => k_mem); (case q107m1 => k_mem); (case q107m2 => k_mem); (case q107m3 => k_mem); (case q107hd => ktr_room); (case q107hu => ktr_units); (case q107hsc => rfl); (case q107hbody => rfl); (case q107hr => first | exact kinds_EG (by with_reducible assumption) (by with_reducible assumption) (by with_reducible assumption) (by with_reducible assumption) | exact kinds_FD (by with_reducible assumption) (by with_reducible assumption) (by with_reducible assumption)); (case q107hq => with_reducible assumption); (case q107hq' => with_reducible assumption); (case q107hk => first | exact ⟨Int.le_refl _, by decide⟩ | (constructor <;> split <;> decide)); (case q107hp => omega); (case q107hp' => omega); (case q107hs => omega); (case q107hs' => omega); (case q107hv1 => omega); (case q107hv1' => omega); (case q107he1 => omega); (case q107he1' => omega); (case q107hv2 => omega); (case q107hv2' => omega); (case q107he2 => omega); (case q107he2' => omega)); intro h' tk' m' news' F' N'))
  exact True.intro
theorem law_holds : PySem.Challenge.rw_no0231_01.Holds := hd (by
  k_go0
  all_goals try k_fold
  k_steps)
end
end
end Mine
theorem PySem.Challenge.cw_no0231_01_holds : PySem.Challenge.rw_no0231_01.Holds :=
  Mine.law_holds
