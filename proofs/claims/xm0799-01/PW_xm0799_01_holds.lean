import PyProof.Rows.All
import Wide.All
import OpenK.AllK
import Wide.FinOn
import PySem.Challenge.RW_xm0799_01
set_option Elab.async false

section
open PySem PySem.W PySem.W.X PyProof.Rows
set_option maxRecDepth 100000
set_option maxHeartbeats 8000000
local macro_rules | `(tactic| k_head) => `(tactic| x_head)
open_top Mine.hx for PySem.Challenge.rw_xm0799_01
end

section
open PySem PySem.W PyProof.Rows PySem.Calls
set_option maxRecDepth 100000
set_option maxHeartbeats 4000000
namespace Mine
local macro_rules | `(tactic| k_all) => `(tactic| assumption)
theorem gd0 (a b : Int) : [a, b].getD (Int.toNat 0) 0 = a := rfl
theorem gd1 (a b : Int) : [a, b].getD (Int.toNat 1) 0 = b := rfl
local macro_rules | `(tactic| walk_at "binaryOp Mult int int") => `(tactic| (simp only [gd0, gd1]; with_reducible refine mul_int ?_))
theorem fm_lo {a b : Int} (h : 1 ≤ b) : 0 ≤ a.fmod b := by rw [Int.fmod_eq_emod_of_nonneg _ (by omega)]; exact Int.emod_nonneg _ (by omega)
theorem fm_hi {a b : Int} (h : 1 ≤ b) : a.fmod b < b := by rw [Int.fmod_eq_emod_of_nonneg _ (by omega)]; exact Int.emod_lt_of_pos _ (by omega)
theorem fd_lo {a b : Int} (ha : 0 ≤ a) (h : 1 ≤ b) : 0 ≤ a.fdiv b := Int.fdiv_nonneg ha (by omega)
theorem fd_hi {a b : Int} (ha : 0 ≤ a) (h : 1 ≤ b) : a.fdiv b ≤ a := by rw [Int.fdiv_eq_ediv_of_nonneg _ (by omega)]; exact Int.ediv_le_self _ ha
theorem take_ok {w : World} {mean : ExcName → Option Value} {mg mb : Str → Option Value} {dp un : Nat} {gd : Option (List Code)} {cn : Str} {cs : Scope} {a : Addr} {ccd : Value} {cl : List (Str × Addr)} {outer : List Env} {A₀ : Around} {base h₀ : Heap} {L : Addr} {m : Str → Option Value} {s : Shared} {Q E : Value → Shared → Prop}
   {src : Addr} {g sd : Int} {t1 t2 : Tok} {n : Nat} {rest : List (Addr × Obj)} {top : Int} {tt : Tok}
   (B : Below A₀ base outer h₀) (F : Fr h₀ L s.heap m) (X : (Mine.hx.heap_39 w.params).In h₀) (N : News h₀ L s.heap ((src, listOf #[.int g t1, .int sd t2] n) :: rest))
   (T : Top Mine.hx.view_39 (looseW Mine.hx.view_39 []) mean mg mb h₀) (hk : cs.kind = .function)
   (hd : dp + 1 < recursionLimit)
   (hoff : ∀ p ∈ rest, p.1 ≠ src) (hg : 0 ≤ g) (hs0 : 0 ≤ sd) (hs1 : sd < 2147483647) (ht : 1 ≤ top) (ht2 : top ≤ 256)
   (hret : ∀ (r : Int) (t : Tok) (g' sd' : Int) (t1' t2' : Tok) (n' : Nat) (h' : Heap) (tk' : Nat), Fr h₀ L h' m → News h₀ L h' ((src, listOf #[.int g' t1', .int sd' t2'] n') :: rest) →
      0 ≤ g' → g' ≤ g → 0 ≤ sd' → sd' < 2147483647 → 0 ≤ r → r < top → Q (.int r t) { s with heap := h', toks := tk' }) :
   wpAny (model PySem.Challenge.rw_xm0799_01.row.prog w) (ktrTop dp un gd cn cs L a ccd cl outer) (call (.ref 74) [.ref src, .int top tt]) Q E s := by
  revert X; k_fill; intro X
  refine wpAny_call ?_
  k_dflt ktr_enter
  k_steps
  all_goals (try simp only [gd0, gd1] at *)
  · exact hret _ _ _ _ _ _ _ _ _ (by assumption) (by assumption) (fd_lo hg ht) (fd_hi hg ht) hs0 hs1 (fm_lo ht) (fm_hi ht)
  · exact hret _ _ _ _ _ _ _ _ _ (by assumption) (by assumption) hg (Int.le_refl _) (fm_lo (by decide)) (fm_hi (by decide)) (fm_lo ht) (fm_hi ht)
end Mine
end

section
open PySem PySem.W PyProof.Rows PySem.Calls
set_option maxRecDepth 100000
set_option maxHeartbeats 4000000
namespace Mine
local macro_rules | `(tactic| walk_at "call ref") => `(tactic| (k_here; k_dflt (refine take_ok (by k_asm) (by k_asm) (by k_asm) (by k_asm) (by k_asm) (by first | exact rfl | assumption) (by ktr_room) (by k_asm) (by assumption) (by assumption) (by assumption) (by omega) (by omega) ?_); intro r9 t9 g9 sd9 t19 t29 n9 h9 tk9 F9 N9 hg9 hgg9 hs9 hs99 hr9 hrr9; (try dsimp only); (try k_fold)))
theorem one_ok {w : World} {mean : ExcName → Option Value} {mg mb : Str → Option Value} {dp un : Nat} {gd : Option (List Code)} {cn : Str} {cs : Scope} {a : Addr} {ccd : Value} {cl : List (Str × Addr)} {outer : List Env} {A₀ : Around} {base h₀ : Heap} {L : Addr} {m : Str → Option Value} {s : Shared} {Q E : Value → Shared → Prop}
   {src : Addr} {g sd : Int} {t1 t2 : Tok} {n : Nat} {rest : List (Addr × Obj)} {th : Addr} {vs : List Value} {k : Nat}
   (B : Below A₀ base outer h₀) (F : Fr h₀ L s.heap m) (X : (Mine.hx.heap_39 w.params).In h₀) (N : News h₀ L s.heap ((src, listOf #[.int g t1, .int sd t2] n) :: (th, listOf vs.toArray k) :: rest))
   (T : Top Mine.hx.view_39 (looseW Mine.hx.view_39 []) mean mg mb h₀) (hk : cs.kind = .function)
   (hd : dp + 2 < recursionLimit)
   (hoff : ∀ p ∈ (th, listOf vs.toArray k) :: rest, p.1 ≠ src) (hg : 0 ≤ g) (hs0 : 0 ≤ sd) (hs1 : sd < 2147483647) (hv1 : 1 ≤ vs.length) (hv2 : vs.length ≤ 256)
   (hret : ∀ (v : Value) (g' sd' : Int) (t1' t2' : Tok) (n' : Nat) (h' : Heap) (tk' : Nat), Fr h₀ L h' m → News h₀ L h' ((src, listOf #[.int g' t1', .int sd' t2'] n') :: (th, listOf vs.toArray k) :: rest) →
      0 ≤ g' → g' ≤ g → 0 ≤ sd' → sd' < 2147483647 → v ∈ vs → Q v { s with heap := h', toks := tk' }) :
   wpAny (model PySem.Challenge.rw_xm0799_01.row.prog w) (ktrTop dp un gd cn cs L a ccd cl outer) (call (.ref 81) [.ref src, .ref th]) Q E s := by
  revert X; k_fill; intro X
  refine wpAny_call ?_
  k_dflt ktr_enter
  have hoff' := hoff
  k_steps
  refine PyProof.Rows.len_list (News.isList (by assumption) (.tail _ (.head _))) (by rw [List.size_toArray]; omega) ?_
  rw [List.size_toArray]
  have hv1' : (1 : Int) ≤ (vs.length : Int) := by omega
  have hv2' : (vs.length : Int) ≤ 256 := by omega
  k_steps
  rename_i r9 t9 g9 sd9 t19 t29 n9 h9 tk9 F9 N9 hg9 hgg9 hs9 hs99 hr9 hrr9
  have hix : r9.toNat < vs.length := by omega
  k_dflt (refine item_litK (vs := vs) (v := vs[r9.toNat]) (News.isList N9 (.tail _ (.head _))) hr9 (by omega) (List.getElem?_eq_getElem hix) ?_ ?_)
  · k_steps
    exact hret _ _ _ _ _ _ _ _ (by assumption) (by assumption) hg9 hgg9 hs9 hs99 (List.getElem_mem _)
  · with_unfolding_all rfl
end Mine
end

section
open PySem PySem.W PyProof.Rows PySem.Calls
set_option maxRecDepth 100000
set_option maxHeartbeats 4000000
namespace Mine
theorem pool_ok {w : World} {mean : ExcName → Option Value} {mg mb : Str → Option Value} {dp un : Nat} {gd : Option (List Code)} {cn : Str} {cs : Scope} {a : Addr} {ccd : Value} {cl : List (Str × Addr)} {outer : List Env} {A₀ : Around} {base h₀ : Heap} {L : Addr} {m : Str → Option Value} {s : Shared} {Q E : Value → Shared → Prop}
   {news : List (Addr × Obj)} {l : Addr} {vs : List Value} {ns : List Int}
   (B : Below A₀ base outer h₀) (F : Fr h₀ L s.heap m) (X : (Mine.hx.heap_39 w.params).In h₀) (N : News h₀ L s.heap news)
   (T : Top Mine.hx.view_39 (looseW Mine.hx.view_39 []) mean mg mb h₀) (hk : cs.kind = .function)
   (hd : dp + 1 < recursionLimit) (hl : base.IsList l vs.toArray) (hi : IntsAre vs ns) (hlay : (PyData.list (ns.map PyData.int)).layable0 = true)
   (hret : ∀ (p : Addr) (g sd : Int) (t1 t2 : Tok) (n : Nat) (h' : Heap) (tk' : Nat), Fr h₀ L h' m → News h₀ L h' ((p, listOf #[.int g t1, .int sd t2] n) :: news) → (∀ q ∈ news, q.1 < p) →
      0 ≤ g → 0 ≤ sd → sd < 2147483647 → Q (.ref p) { s with heap := h', toks := tk' }) :
   wpAny (model PySem.Challenge.rw_xm0799_01.row.prog w) (ktrTop dp un gd cn cs L a ccd cl outer) (call (.ref 67) [.ref l]) Q E s := by
  revert X; k_fill; intro X
  refine wpAny_call ?_
  k_dflt ktr_enter
  (rename Below _ _ _ _ => B')
  k_lift B'
  k_steps
  all_goals exact hret _ _ _ _ _ _ _ _ (by assumption) (by assumption) (by assumption) (Int.mul_nonneg (by split <;> omega) (by split <;> omega)) (fm_lo (by decide)) (fm_hi (by decide))
end Mine
end

section
open PySem PySem.W PyProof.Rows PySem.Calls
set_option maxRecDepth 100000
set_option maxHeartbeats 4000000
namespace Mine

abbrev nameL : List Int := [73, 67, 67, 95, 80, 82, 79, 70, 73, 76, 69, 0]
theorem in_name {ns : List Int} (h : KBa.In ns) : KBa.In ([73, 67, 67, 95, 80, 82, 79, 70, 73, 76, 69, 0] ++ ns) := by
  intro n hn
  rcases List.mem_append.mp hn with q | q
  · simp only [List.mem_cons, List.not_mem_nil, or_false] at q
    omega
  · exact h n q
theorem payload_part {w : World} {mean : ExcName → Option Value} {mg mb : Str → Option Value} {dp un : Nat} {gd : Option (List Code)} {cn : Str} {cs : Scope} {a : Addr} {ccd : Value} {cl : List (Str × Addr)} {outer : List Env} {A₀ : Around} {base h₀ : Heap} {L : Addr} {m : Str → Option Value} {s : Shared} {Q E : Value → Shared → Prop}
   {news : List (Addr × Obj)} {r l : Addr} {vs : List Value} {ns : List Int} {t : Tok} {k k' : Nat}
   (B : Below A₀ base outer h₀) (F : Fr h₀ L s.heap m) (X : (Mine.hx.heap_39 w.params).In h₀) (N : News h₀ L s.heap ((r, ({ cls := .type "tuple", data := .seq #[.str (Str.ofString "part") t, .ref l] k } : Obj)) :: (l, listOf vs.toArray k') :: news))
   (T : Top Mine.hx.view_39 (looseW Mine.hx.view_39 []) mean mg mb h₀) (hk : cs.kind = .function)
   (hd : dp + 1 < recursionLimit) (hi : IntsAre vs ns) (hb : KBa.In ns) (hlen : ns.length ≤ 64)
   (hret : ∀ (t9 : Tok) (h' : Heap) (tk' : Nat), Fr h₀ L h' m → News h₀ L h' ((r, ({ cls := .type "tuple", data := .seq #[.str (Str.ofString "part") t, .ref l] k } : Obj)) :: (l, listOf vs.toArray k') :: news) → Q (.bytes (byteArr ([73, 67, 67, 95, 80, 82, 79, 70, 73, 76, 69, 0] ++ ns)) t9) { s with heap := h', toks := tk' }) :
   wpAny (model PySem.Challenge.rw_xm0799_01.row.prog w) (ktrTop dp un gd cn cs L a ccd cl outer) (call (.ref 93) [.ref r]) Q E s := by
  revert X; k_fill; intro X
  have hIn := in_name hb
  refine wpAny_call ?_
  k_dflt ktr_enter
  k_steps
  exact hret _ _ _ (by assumption) (cb_drop (by assumption) (by intro p hp; exact .tail _ (.tail _ hp)))
theorem payload_other {w : World} {mean : ExcName → Option Value} {mg mb : Str → Option Value} {dp un : Nat} {gd : Option (List Code)} {cn : Str} {cs : Scope} {a : Addr} {ccd : Value} {cl : List (Str × Addr)} {outer : List Env} {A₀ : Around} {base h₀ : Heap} {L : Addr} {m : Str → Option Value} {s : Shared} {Q E : Value → Shared → Prop}
   {news : List (Addr × Obj)} {r l : Addr} {vs : List Value} {ns : List Int} {t : Tok} {k k' : Nat}
   (B : Below A₀ base outer h₀) (F : Fr h₀ L s.heap m) (X : (Mine.hx.heap_39 w.params).In h₀) (N : News h₀ L s.heap ((r, ({ cls := .type "tuple", data := .seq #[.str (Str.ofString "other") t, .ref l] k } : Obj)) :: (l, listOf vs.toArray k') :: news))
   (T : Top Mine.hx.view_39 (looseW Mine.hx.view_39 []) mean mg mb h₀) (hk : cs.kind = .function)
   (hd : dp + 1 < recursionLimit) (hi : IntsAre vs ns) (hb : KBa.In ns) (hlen : ns.length ≤ 64)
   (hret : ∀ (t9 : Tok) (h' : Heap) (tk' : Nat), Fr h₀ L h' m → News h₀ L h' ((r, ({ cls := .type "tuple", data := .seq #[.str (Str.ofString "other") t, .ref l] k } : Obj)) :: (l, listOf vs.toArray k') :: news) → Q (.bytes (byteArr ns) t9) { s with heap := h', toks := tk' }) :
   wpAny (model PySem.Challenge.rw_xm0799_01.row.prog w) (ktrTop dp un gd cn cs L a ccd cl outer) (call (.ref 93) [.ref r]) Q E s := by
  revert X; k_fill; intro X
  refine wpAny_call ?_
  k_dflt ktr_enter
  k_steps
  exact hret _ _ _ (by assumption) (cb_drop (by assumption) (by intro p hp; exact .tail _ hp))
end Mine
end

section
open PySem PySem.W PyProof.Rows PySem.Calls
namespace Mine
theorem u8_inj : ∀ {l r : List UInt8}, (l.map fun c => (c.toNat : Int)) = (r.map fun c => (c.toNat : Int)) → l = r
  | [], [], _ => rfl
  | [], _ :: _, h => by simp at h
  | _ :: _, [], h => by simp at h
  | a :: l, b :: r, h => by
    simp only [List.map_cons, List.cons.injEq] at h
    have h1 : a.toNat = b.toNat := by omega
    rw [UInt8.toNat_inj.mp h1, u8_inj h.2]
theorem isp_eq {b : Array UInt8} {ks : List Int} (hk : KBw.bInts b = ks) :
    ((KBy.picked b none (some ((#[73, 67, 67, 95, 80, 82, 79, 70, 73, 76, 69, 0] : Array UInt8).size : Int))).toList == [73, 67, 67, 95, 80, 82, 79, 70, 73, 76, 69, 0]) = decide (ks.take 12 = [73, 67, 67, 95, 80, 82, 79, 70, 73, 76, 69, 0]) := by
  subst hk
  rw [KBc.picked_eq, Bool.eq_iff_iff, beq_iff_eq, decide_eq_true_iff]
  have e : (((b.toList.drop ((none : Option Int).elim 0 (clipAt b.size))).take ((some ((#[73, 67, 67, 95, 80, 82, 79, 70, 73, 76, 69, 0] : Array UInt8).size : Int)).elim b.size (clipAt b.size) - (none : Option Int).elim 0 (clipAt b.size))).toArray).toList = b.toList.take 12 := by
    show (b.toList.drop 0).take (clipAt b.size 12 - 0) = _
    have hc : clipAt b.size 12 = min 12 b.size := KBc.clip_lit _ _
    rw [hc, List.drop_zero, Nat.sub_zero]
    by_cases h : 12 ≤ b.size
    · rw [Nat.min_eq_left h]
    · rw [Nat.min_eq_right (by omega), List.take_of_length_le (by simp), List.take_of_length_le (by simp; omega)]
  rw [e]
  have e2 : (KBw.bInts b).take 12 = (b.toList.take 12).map fun c => (c.toNat : Int) := by
    show (b.toList.map _).take 12 = _
    rw [List.map_take]
  rw [e2]
  constructor
  · intro h; rw [h]; rfl
  · intro h
    exact u8_inj (h.trans rfl)
end Mine
end

section
open PySem PySem.W PyProof.Rows PySem.Calls
set_option maxRecDepth 100000
set_option maxHeartbeats 4000000
namespace Mine
theorem isprof_ok {w : World} {mean : ExcName → Option Value} {mg mb : Str → Option Value} {dp un : Nat} {gd : Option (List Code)} {cn : Str} {cs : Scope} {a : Addr} {ccd : Value} {cl : List (Str × Addr)} {outer : List Env} {A₀ : Around} {base h₀ : Heap} {L : Addr} {m : Str → Option Value} {s : Shared} {Q E : Value → Shared → Prop}
   {news : List (Addr × Obj)} {b : Array UInt8} {ks : List Int} {t : Tok}
   (B : Below A₀ base outer h₀) (F : Fr h₀ L s.heap m) (X : (Mine.hx.heap_39 w.params).In h₀) (N : News h₀ L s.heap news)
   (T : Top Mine.hx.view_39 (looseW Mine.hx.view_39 []) mean mg mb h₀) (hk : cs.kind = .function)
   (hd : dp + 1 < recursionLimit) (hb : KBw.bInts b = ks) (hlen : ks.length ≤ 64)
   (hret : ∀ (h' : Heap) (tk' : Nat), Fr h₀ L h' m → News h₀ L h' news → Q (.bool (decide (ks.take 12 = [73, 67, 67, 95, 80, 82, 79, 70, 73, 76, 69, 0]))) { s with heap := h', toks := tk' }) :
   wpAny (model PySem.Challenge.rw_xm0799_01.row.prog w) (ktrTop dp un gd cn cs L a ccd cl outer) (call (.ref 53) [.bytes b t]) Q E s := by
  revert X; k_fill; intro X
  refine wpAny_call ?_
  k_dflt ktr_enter
  k_steps
  rw [isp_eq hb]
  exact hret _ _ (by assumption) (by assumption)
end Mine
end

section
open PySem PySem.W PyProof.Rows PySem.Calls
namespace Mine
/-- what parts_by_number reckons: the parts by number, and how many there should be -/
abbrev PSt := List (Int × List Int) × Option Int
abbrev oddP (ks : List Int) : Prop := ks.length < 14 ∨ ks.getD 13 0 = 0 ∨ ¬ (1 ≤ ks.getD 12 0 ∧ ks.getD 12 0 ≤ ks.getD 13 0)
abbrev unfitP (st : PSt) (ks : List Int) : Prop := (st.2 ≠ none ∧ st.2 ≠ some (ks.getD 13 0)) ∨ ks.getD 12 0 ∈ st.1.map (·.1)
abbrev isProf (ks : List Int) : Prop := ks.take 12 = [73, 67, 67, 95, 80, 82, 79, 70, 73, 76, 69, 0]
def pstep (st : PSt) (ks : List Int) : Except Bool PSt :=
  if isProf ks then
    if oddP ks then .error false
    else if unfitP st ks then .error true
    else .ok (st.1 ++ [(ks.getD 12 0, ks.drop 14)], some (ks.getD 13 0))
  else .ok st
def pfold (st : PSt) : List (List Int) → Except Bool PSt
  | [] => .ok st
  | ks :: r => match pstep st ks with
    | .ok st' => pfold st' r
    | .error b => .error b
theorem pfold_append {st : PSt} : ∀ {l r : List (List Int)}, pfold st (l ++ r) = match pfold st l with | .ok st' => pfold st' r | .error b => .error b
  | [], r => rfl
  | ks :: l, r => by
    show (match pstep st ks with | .ok st' => pfold st' (l ++ r) | .error b => .error b) = match (match pstep st ks with | .ok st' => pfold st' l | .error b => .error b) with | .ok st' => pfold st' r | .error b => .error b
    cases pstep st ks with
    | ok st' => exact pfold_append
    | error b => rfl
theorem pfold_take_ok {st st₁ st₂ : PSt} {l : List (List Int)} {i : Nat} {ks : List Int} (hi : l[i]? = some ks) (h1 : pfold st (l.take i) = .ok st₁) (h2 : pstep st₁ ks = .ok st₂) : pfold st (l.take (i + 1)) = .ok st₂ := by
  rw [List.take_add_one, hi]
  rw [pfold_append, h1]
  show pfold st₁ [ks] = _
  unfold pfold
  rw [h2]; rfl
theorem pfold_err {st st₁ : PSt} {l : List (List Int)} {i : Nat} {ks : List Int} {b : Bool} (hi : l[i]? = some ks) (h1 : pfold st (l.take i) = .ok st₁) (h2 : pstep st₁ ks = .error b) : pfold st l = .error b := by
  have e : l = l.take i ++ ks :: l.drop (i + 1) := by
    have h9 := List.take_append_drop (i + 1) l
    rw [List.take_add_one, hi, List.append_assoc] at h9
    exact h9.symm
  rw [e, pfold_append, h1]
  show pfold st₁ (ks :: l.drop (i + 1)) = _
  unfold pfold
  rw [h2]
/-- a list of bytes values -/
inductive BysAre : List Value → List (List Int) → Prop
  | nil : BysAre [] []
  | cons {b : Array UInt8} {t : Tok} {ks : List Int} {vs : List Value} {kss : List (List Int)} : KBw.bInts b = ks → ks.length ≤ 64 → BysAre vs kss → BysAre (.bytes b t :: vs) (ks :: kss)
theorem BysAre.length {vs : List Value} {kss : List (List Int)} (h : BysAre vs kss) : vs.length = kss.length := by
  induction h with
  | nil => rfl
  | cons _ _ _ ih => simp [ih]
theorem BysAre.get {vs : List Value} {kss : List (List Int)} (h : BysAre vs kss) : ∀ {i : Nat} {v : Value}, vs[i]? = some v → ∃ b t ks, v = .bytes b t ∧ kss[i]? = some ks ∧ KBw.bInts b = ks ∧ ks.length ≤ 64 := by
  induction h with
  | nil => intro i v e; simp at e
  | @cons b t ks vs kss hb hl _ ih =>
    intro i v e
    cases i with
    | zero => simp at e; exact ⟨b, t, ks, e.symm, rfl, hb, hl⟩
    | succ i => simp at e; simpa using ih e
theorem BysAre.snoc {vs : List Value} {kss : List (List Int)} {b : Array UInt8} {t : Tok} {ks : List Int} (h : BysAre vs kss) (hb : KBw.bInts b = ks) (hl : ks.length ≤ 64) : BysAre (vs ++ [.bytes b t]) (kss ++ [ks]) := by
  induction h with
  | nil => exact .cons hb hl .nil
  | cons h1 h2 _ ih => exact .cons h1 h2 ih
/-- the dict's pairs -/
inductive KvAre : List (Int × Value) → List (Int × List Int) → Prop
  | nil : KvAre [] []
  | cons {k : Int} {b : Array UInt8} {t : Tok} {ks : List Int} {kvs : List (Int × Value)} {es : List (Int × List Int)} : KBw.bInts b = ks → KvAre kvs es → KvAre ((k, .bytes b t) :: kvs) ((k, ks) :: es)
theorem KvAre.snoc {kvs : List (Int × Value)} {es : List (Int × List Int)} {k : Int} {b : Array UInt8} {t : Tok} {ks : List Int} (h : KvAre kvs es) (hb : KBw.bInts b = ks) : KvAre (kvs ++ [(k, .bytes b t)]) (es ++ [(k, ks)]) := by
  induction h with
  | nil => exact .cons hb .nil
  | cons h1 _ ih => exact .cons h1 ih
theorem KvAre.keys {kvs : List (Int × Value)} {es : List (Int × List Int)} (h : KvAre kvs es) : kvs.map (·.1) = es.map (·.1) := by
  induction h with
  | nil => rfl
  | cons _ _ ih => simp [ih]
theorem KvAre.length {kvs : List (Int × Value)} {es : List (Int × List Int)} (h : KvAre kvs es) : kvs.length = es.length := by
  have q := congrArg List.length h.keys
  simpa using q
theorem valueAt_some {kvs : List (Int × Value)} {k : Int} : (valueAt kvs k).isSome = decide (k ∈ kvs.map (·.1)) := by
  induction kvs with
  | nil => rfl
  | cons p r ih =>
    unfold valueAt at ih ⊢
    rw [List.find?_cons]
    by_cases h : p.1 = k
    · simp [h]
    · simp only [decide_eq_false h, List.map_cons, List.mem_cons, Bool.false_eq_true]
      rw [ih]
      simp [Ne.symm h]
theorem stored_new {kvs : List (Int × Value)} {k : Int} {v : Value} (h : k ∉ kvs.map (·.1)) : stored kvs k v = kvs ++ [(k, v)] := by
  unfold stored
  rw [if_neg]
  intro q
  obtain ⟨p, hp, e⟩ := List.any_eq_true.mp q
  exact h (List.mem_map.mpr ⟨p, hp, of_decide_eq_true e⟩)
theorem lt_of_allLt {d : Addr} : ∀ {l : List (Addr × Obj)}, AllLt d l → ∀ p ∈ l, p.1 < d := by
  intro l
  induction l with
  | nil => intro _ p hp; cases hp
  | cons q r ih =>
    intro h p hp
    rcases List.mem_cons.mp hp with e | hp
    · rw [e]; exact h.1
    · exact ih h.2 p hp
theorem offd {d pl : Addr} {o x : Obj} {rest own : List (Addr × Obj)} (l1 : pl < d ∧ AllLt d rest) (hoff : OwnOff own (((d, o) :: (pl, x) :: rest).map (·.1))) : ∀ p ∈ (pl, x) :: (rest ++ own), p.1 ≠ d := by
  intro p hp
  rcases List.mem_cons.mp hp with rfl | hp
  · exact Nat.ne_of_lt l1.1
  · rcases List.mem_append.mp hp with hp | hp
    · exact Nat.ne_of_lt (lt_of_allLt l1.2 p hp)
    · exact hoff p hp d (.head _)
theorem pstep_odd {st : PSt} {ks : List Int} (h1 : isProf ks) (h2 : oddP ks) : pstep st ks = .error false := by unfold pstep; rw [if_pos h1, if_pos h2]
theorem pstep_unfit {st : PSt} {ks : List Int} (h1 : isProf ks) (h2 : ¬ oddP ks) (h3 : unfitP st ks) : pstep st ks = .error true := by unfold pstep; rw [if_pos h1, if_neg h2, if_pos h3]
theorem pstep_ok {st : PSt} {ks : List Int} (h1 : isProf ks) (h2 : ¬ oddP ks) (h3 : ¬ unfitP st ks) : pstep st ks = .ok (st.1 ++ [(ks.getD 12 0, ks.drop 14)], some (ks.getD 13 0)) := by unfold pstep; rw [if_pos h1, if_neg h2, if_neg h3]
theorem pstep_other {st : PSt} {ks : List Int} (h1 : ¬ isProf ks) : pstep st ks = .ok st := by unfold pstep; rw [if_neg h1]
inductive ManyIs : Value → Option Int → Prop
  | none : ManyIs .none none
  | int (k : Int) (t : Tok) : ManyIs (.int k t) (some k)
end Mine
end

section
open PySem PySem.W PySem.W.X PyProof.Rows PySem.Calls
set_option maxRecDepth 100000
set_option maxHeartbeats 4000000
namespace Mine
abbrev excObj (d tp : Addr) (tb : Value) : Obj := { cls := .ref 44, dict := some d, data := .fields #[.ref tp, tb, .none, .none, .bool false, .none] }
abbrev msgDict (hsh : Int) (kt n : Nat) (msg : Str) (t : Tok) : Obj := { cls := .type "dict", data := .dict #[⟨hsh, .str ⟨#[109, 101, 115, 115, 97, 103, 101]⟩ kt, .str msg t⟩] n }
abbrev hMsg (w : World) : Int := PyData.keyHash w.params ⟨#[109, 101, 115, 115, 97, 103, 101]⟩
theorem hMsg_eq (w : World) : condFn Int (Str.cps ⟨#[109, 101, 115, 115, 97, 103, 101]⟩).isEmpty 0 (PySem.W.XFast.xw12210062019545310541 (w.params.strHash #[109, 101, 115, 115, 97, 103, 101])) = hMsg w := by
  rw [← PySem.W.XFast.xe12210062019545310541]
  rfl
def MkRet (w : World) (s : Shared) (msg : Str) (t : Tok) (Q : Value → Shared → Prop) : Prop :=
  ∀ (e d tp : Addr) (kt n : Nat) (h' : Heap) (tk' : Nat), (∀ b o, s.heap.get? b = some o → h'.get? b = some o) → s.heap.get? e = none → s.heap.get? d = none → d ≠ e →
    h'.get? e = some (excObj d tp .none) → h'.get? d = some (msgDict (hMsg w) kt n msg t) → Q (.ref e) { s with heap := h', toks := tk' }
theorem MkRet.use {w : World} {s : Shared} {msg : Str} {t : Tok} {Q : Value → Shared → Prop} {h : Heap} {d tp fr e t1 : Addr} {o1 o2 o3 : Obj} {hsh : Int} {kt n tk : Nat} (H : MkRet w s msg t Q)
    (D : Mem s.heap h [] [(d, msgDict hsh kt n msg t), (tp, o1), (fr, o2), (e, excObj d tp .none), (t1, o3)]) (hq : hsh = hMsg w) : Q (.ref e) { s with heap := h, toks := tk } := by
  subst hq
  have he : s.heap.get? e = none := (D.nw (e, excObj d tp .none) (.tail _ (.tail _ (.tail _ (.head _))))).2
  have hd : s.heap.get? d = none := (D.nw (d, msgDict _ kt n msg t) (.head _)).2
  have hk : ∀ b o, s.heap.get? b = some o → h.get? b = some o := fun b o q => D.keep b o q (by simp [away])
  exact H e d tp kt n h tk hk he hd (D.ne 0 3 _ _ _ _ rfl rfl rfl) (D.at 3 _ _ rfl) (D.at 0 _ _ rfl)
local macro_rules | `(tactic| x_close) => `(tactic| exact MkRet.use (by assumption) (by assumption) (hMsg_eq _))
def A0 : Around := { handled := none, depth := 400, frames := none, guards := none, units := 1000 }
theorem mk_exc0 {w : World} {s : Shared} {Q E : Value → Shared → Prop} {msg : Str} {t : Tok} (X : (Mine.hx.heap_39 w.params).In s.heap) (H : MkRet w s msg t Q) :
   wpAny (model PySem.Challenge.rw_xm0799_01.row.prog w) A0 (call (.ref 44) [.str msg t]) Q E s := by
  revert X; k_fill; intro X
  have h0 : s.heap.get? (nat_lit 0) = some _ := X 0 _ rfl
  generalize PySem.Challenge.rw_xm0799_01.row.prog = pr
  x_run
theorem wpAny_wider {α : Type} {M : Model} {A A' : Around} {t : Sem α} {Q : α → Shared → Prop} {E : Value → Shared → Prop} {s : Shared} (h : wpAny M A t Q E s)
    (h1 : A'.handled = A.handled) (h2 : A'.depth ≤ A.depth) (h3 : A.frames = none) (h4 : A.guards = none) (h5 : A'.units ≤ A.units) : wpAny M A' t Q E s := by
  intro Γ p hΓ
  refine h Γ p ⟨hΓ.1.trans h1, Nat.le_trans hΓ.2.1 h2, fun l hl => ?_, fun g hg => ?_, Nat.le_trans hΓ.2.2.2.2 h5⟩
  · rw [h3] at hl; cases hl
  · rw [h4] at hg; cases hg
theorem mk_exc {w : World} {A : Around} {s : Shared} {Q E : Value → Shared → Prop} {msg : Str} {t : Tok} (X : (Mine.hx.heap_39 w.params).In s.heap) (hh : A.handled = none) (hd : A.depth ≤ 400) (hu : A.units ≤ 1000) (H : MkRet w s msg t Q) :
   wpAny (model PySem.Challenge.rw_xm0799_01.row.prog w) A (call (.ref 44) [.str msg t]) Q E s :=
  wpAny_wider (mk_exc0 X H) hh hd rfl rfl hu
end Mine
end

section
open PySem PySem.W PyProof.Rows PySem.Calls
namespace Mine
/-- the exception e, its dict d, its arguments tp, its newest traceback entry T with flight mark fl -/
structure Fly (h : Heap) (e d tp T : Addr) (fl : Value) : Prop where
  exc : h.get? e = some (excObj d tp (.ref T))
  tb : ∃ oT ts, h.get? T = some oT ∧ oT.data = .fields ts ∧ ts[3]? = some fl
  ne : T ≠ e
/-- all but ex stays; the frames fs may turn their slots -/
structure Moved (fs ex : List Addr) (h h' : Heap) : Prop where
  keep : ∀ b o, h.get? b = some o → b ∉ ex → b ∉ fs → h'.get? b = some o
  slots : ∀ b o, h.get? b = some o → b ∉ ex → ∃ sl, h'.get? b = some { o with slots := sl }
  size : h.objs.size ≤ h'.objs.size
theorem Moved.refl (fs ex : List Addr) (h : Heap) : Moved fs ex h h := ⟨fun _ _ e _ _ => e, fun _ o e _ => ⟨o.slots, e⟩, Nat.le_refl _⟩
theorem Moved.trans {fs ex : List Addr} {h₁ h₂ h₃ : Heap} (x : Moved fs ex h₁ h₂) (y : Moved fs ex h₂ h₃) : Moved fs ex h₁ h₃ :=
  ⟨fun b o e n f => y.keep b o (x.keep b o e n f) n f, fun b o e n => let ⟨_, e₁⟩ := x.slots b o e n; let ⟨sl, e₂⟩ := y.slots b _ e₁ n; ⟨sl, e₂⟩, Nat.le_trans x.size y.size⟩
theorem Moved.wider {fs fs' ex ex' : List Addr} {h h' : Heap} (x : Moved fs ex h h') (h1 : ∀ b ∈ fs, b ∈ fs') (h2 : ∀ b ∈ ex, b ∈ ex' ∨ h.get? b = none) : Moved fs' ex' h h' := by
  have key : ∀ b o, h.get? b = some o → b ∉ ex' → b ∉ ex := fun b o e n q => by
    rcases h2 b q with z | z
    · exact n z
    · rw [z] at e; cases e
  exact ⟨fun b o e n f => x.keep b o e (key b o e n) fun q => f (h1 b q), fun b o e n => x.slots b o e (key b o e n), x.size⟩
theorem Moved.fresh {fs ex : List Addr} {h₁ h₂ h₃ : Heap} {T : Addr} (x : Moved fs ex h₁ h₂) (y : Moved [] [T] h₂ h₃) (n : h₁.get? T = none) : Moved fs ex h₁ h₃ := by
  have key : ∀ b o, h₁.get? b = some o → b ∉ [T] := fun b o e q => by
    rw [List.mem_singleton.mp q, n] at e; cases e
  exact ⟨fun b o e p q => y.keep b o (x.keep b o e p q) (key b o e) (fun z => nomatch z), fun b o e p => (let ⟨_, e₁⟩ := x.slots b o e p; let ⟨sl, e₂⟩ := y.slots b _ e₁ (key b o e); ⟨sl, e₂⟩), Nat.le_trans x.size y.size⟩
/-- growth alone -/
theorem Moved.grown {fs ex : List Addr} {h h' : Heap} (k : ∀ b o, h.get? b = some o → h'.get? b = some o) (hs : h.objs.size ≤ h'.objs.size) : Moved fs ex h h' :=
  ⟨fun b o e _ _ => k b o e, fun b o e _ => ⟨o.slots, k b o e⟩, hs⟩
section
variable {M : Model} {A : Around} {E : Value → Shared → Prop} {s : Shared} {Q : Unit → Shared → Prop} {env : Env} {outer : List Env} {B : Heap} {L e d tp T : Addr} {tb fl : Value}
theorem seg_entry {head : Value} {hadNext : Bool} (hfr : A.frames = some (env :: outer)) (hl : s.heap.FunFrames B (env :: outer)) (hf : env.frame = some L) (he : s.heap.get? e = some (excObj d tp tb))
    (h : ∀ h' T, Moved ((env :: outer).filterMap (·.frame)) [e] s.heap h' → s.heap.get? T = none → Fly h' e d tp T (rawInt L) → Q () { s with heap := h' }) :
    wpAny M A (do let a ← frameOf env; let pl ← entryPlaceOf L hadNext; let b ← EntryCells.newEntry head a .none (rawInt L) .none pl; setField (.ref e) 1 b) Q E s := by
  have hene : e ∉ (env :: outer).filterMap (·.frame) := fun hm => by
    obtain ⟨_, o, ho, hnf⟩ := hl.mem hm
    rw [he] at ho; injection ho with ho; subst ho; exact hnf _ rfl
  refine wpAny_bind (wpAny_frameOf_fun hfr hl hf fun h₁ hs₁ => ?_)
  refine wpAny_bind (wpAny_entryPlaceOf fun pl hpl => ?_)
  unfold EntryCells.newEntry newFields
  refine wpAny_bind (wpAny_newObj_type ?_ (hpl.sizeOk5 _ _ _ _ _))
  have he₁ : h₁.get? e = some (excObj d tp tb) := (hs₁.2.1 e hene).trans he
  have he₂ := Heap.get?_push_of_some (h := h₁) { cls := .type "traceback", dict := none, data := .fields ([head, .ref L, .none, rawInt L, .none] ++ (if pl.isEmpty then List.replicate 6 Value.none else pl)).toArray } he₁
  refine wpAny_setField he₂ rfl (show 1 < 6 by decide) (h _ h₁.objs.size ⟨fun b o hb hbe hbf => ?_, fun b o hb hbe => ?_, ?_⟩ ?_ ⟨?_, ?_, ?_⟩)
  · have hb₁ := (hs₁.2.1 b hbf).trans hb
    rw [Heap.get?_update_other _ _ (fun q => hbe (by rw [q]; exact .head _))]
    exact Heap.get?_push_of_some _ hb₁
  · obtain ⟨sl, hb₁⟩ := hs₁.2.2 b o hb
    refine ⟨sl, ?_⟩
    rw [Heap.get?_update_other _ _ (fun q => hbe (by rw [q]; exact .head _))]
    exact Heap.get?_push_of_some _ hb₁
  · rw [Heap.size_after_update, Heap.size_push, hs₁.1]; exact Nat.le_succ _
  · exact Heap.get?_none_of_le (by rw [hs₁.1]; exact Nat.le_refl _)
  · exact Heap.get?_update_self _ he₂ rfl
  · refine ⟨_, _, (Heap.get?_update_other _ _ (Nat.ne_of_lt (Heap.lt_size he₁))).trans (Heap.get?_push_size h₁ rfl), rfl, ?_⟩
    simp
  · exact Nat.ne_of_gt (Heap.lt_size he₁)
theorem seg_flight (hF : Fly s.heap e d tp T fl) (h : ∀ h', Moved [] [T] s.heap h' → Fly h' e d tp T .none → Q () { s with heap := h' }) : wpAny M A (setFlight (.ref e) none) Q E s := by
  obtain ⟨he, ⟨oT, ts, hT, hd, h3⟩, hne⟩ := hF
  obtain ⟨hlt, _⟩ := Array.getElem?_eq_some_iff.mp h3
  refine wpAny_setFlight_none he rfl rfl hT hd hlt (h _ ⟨fun b o hb hbe _ => ?_, fun b o hb hbe => ⟨o.slots, ?_⟩, ?_⟩ ⟨?_, ⟨_, _, Heap.get?_update_self _ hT (Obj.isFreed_of_fields (Obj.data_mapFields hd _)), Obj.data_mapFields hd _, ?_⟩, hne⟩)
  · rw [Heap.get?_update_other _ _ (fun q => hbe (by rw [q]; exact .head _))]; exact hb
  · rw [Heap.get?_update_other _ _ (fun q => hbe (by rw [q]; exact .head _))]; exact hb
  · rw [Heap.size_after_update]; exact Nat.le_refl _
  · rw [Heap.get?_update_other _ _ hne]; exact he
  · simp [hlt]
theorem seg_leave (hfr : A.frames = some (env :: outer)) (hl : s.heap.FunFrames B (env :: outer)) (hf : env.frame = some L) (he : s.heap.get? e = some (excObj d tp .none))
    (h : ∀ h' T, Moved ((env :: outer).filterMap (·.frame)) [e] s.heap h' → s.heap.get? T = none → Fly h' e d tp T .none → Q () { s with heap := h' }) : wpAny M A (leaving env (.ref e)) Q E s := by
  unfold leaving noteFrame
  simp only [hf]
  refine wpAny_bind (wpAny_bind (wpAny_field (x := Value.none) he rfl rfl ?_))
  rw [if_neg (show ¬ ((Value.none != Value.none) = true) from by decide)]
  refine seg_entry hfr hl hf he fun h₁ T m₁ hn f₁ => ?_
  refine seg_flight f₁ fun h₂ m₂ f₂ => ?_
  exact h h₂ T (m₁.fresh m₂ hn) hn f₂
theorem seg_note (hfr : A.frames = some (env :: outer)) (hl : s.heap.FunFrames B (env :: outer)) (hf : env.frame = some L) (hF : Fly s.heap e d tp T .none)
    (h : ∀ h' T', Moved ((env :: outer).filterMap (·.frame)) [e, T] s.heap h' → s.heap.get? T' = none → Fly h' e d tp T' (rawInt L) → Q () { s with heap := h' }) : wpAny M A (noteFrame (.ref e) env) Q E s := by
  obtain ⟨he, ⟨oT, ts, hT, hd, h3⟩, hne⟩ := hF
  obtain ⟨hlt, _⟩ := Array.getElem?_eq_some_iff.mp h3
  unfold noteFrame
  simp only [hf]
  refine wpAny_bind (wpAny_field (x := Value.ref T) he rfl rfl ?_)
  rw [if_pos (show (Value.ref T != Value.none) = true from by simp)]
  refine wpAny_bind (wpAny_field hT hd h3 ?_)
  rw [if_neg (show ¬ ((Value.none == rawInt L) = true) from by simp [rawInt])]
  refine wpAny_bind (wpAny_setField hT hd hlt ?_)
  have other : ∀ b, b ≠ T → (s.heap.update T (Obj.mapFields (·.setIfInBounds 3 Value.none))).get? b = s.heap.get? b := fun b hb => Heap.get?_update_other _ _ (Ne.symm hb)
  have noRecord : ∀ b o, s.heap.get? b = some o → (∀ vs, o.data ≠ .fields vs) → b ≠ T := fun b o hb hnf q => by
    rw [q, hT] at hb; injection hb with hb; subst hb; exact hnf ts hd
  refine seg_entry hfr (hl.of_keeps fun b o hb hnf => ⟨o, (other b (noRecord b o hb hnf)).trans hb, rfl⟩) hf ((other e (Ne.symm hne)).trans he) fun h₁ T' m₁ hn f₁ => ?_
  have hn' : s.heap.get? T' = none := by
    cases q : s.heap.get? T' with
    | none => rfl
    | some o =>
      by_cases z : T' = T
      · subst z; rw [Heap.get?_update_self _ hT (Obj.isFreed_of_fields (Obj.data_mapFields hd _))] at hn; cases hn
      · rw [other _ z, q] at hn; cases hn
  refine h h₁ T' ⟨fun b o e n f => ?_, fun b o e n => ?_, ?_⟩ hn' f₁
  · simp only [List.mem_cons, List.not_mem_nil, or_false, not_or] at n
    exact m₁.keep b o ((other b n.2).trans e) (by simpa using n.1) f
  · simp only [List.mem_cons, List.not_mem_nil, or_false, not_or] at n
    exact m₁.slots b o ((other b n.2).trans e) (by simpa using n.1)
  · have := m₁.size
    rw [Heap.size_after_update] at this
    exact this
end
end Mine
end

section
open PySem PySem.W PyProof.Rows PySem.Calls
namespace Mine
/-- what a caller knows when its callee let a SegmentError through -/
structure ExcOut (w : World) (h₀ : Heap) (L : Addr) (m : Str → Option Value) (outer : List Env) (news : List (Addr × Obj)) (h' : Heap) (e d tp T : Addr) (msg : Str) (t : Tok) : Prop where
  keep : ∀ b o, h₀.get? b = some o → b ∉ outer.filterMap (·.frame) → h'.get? b = some o
  slots : ∀ b o, h₀.get? b = some o → ∃ sl, h'.get? b = some { o with slots := sl }
  ns : h'.Ns L m
  led : ∀ p ∈ news, h'.get? p.1 = some p.2
  fly : Fly h' e d tp T .none
  dict : ∃ kt n, h'.get? d = some (msgDict (hMsg w) kt n msg t)
  eL : e ≠ L
  dL : d ≠ L
  de : d ≠ e
  eN : h₀.get? e = none
  dN : h₀.get? d = none
  tN : h₀.get? T = none
  tL : T ≠ L
  off : ∀ p ∈ news, p.1 ≠ e ∧ p.1 ≠ d ∧ p.1 ≠ T
theorem none_keep {h h' : Heap} {e : Addr} (k : ∀ b o, h.get? b = some o → h'.get? b = some o) (he : h'.get? e = none) : h.get? e = none := by
  cases q : h.get? e with
  | none => rfl
  | some o => rw [k _ _ q] at he; cases he
theorem ns_slots {h h' : Heap} {L : Addr} {m : Str → Option Value} (F : h.Ns L m) (k : ∀ o, h.get? L = some o → ∃ sl, h'.get? L = some { o with slots := sl }) : h'.Ns L m := by
  obtain ⟨o, es, ep, ho, hd, r⟩ := F
  obtain ⟨sl, h1⟩ := k o ho
  exact ⟨_, es, ep, h1, hd, r⟩
section
variable {M : Model} {A : Around} {E : Value → Shared → Prop} {Q : Unit → Shared → Prop} {base h₀ g h₂ : Heap} {outer : List Env} {L L' a e d tp : Addr} {m m' : Str → Option Value} {name : Str} {scope : Scope} {cd : Value} {s : Shared} {env : Env} {news : List (Addr × Obj)} {msg : Str} {t : Tok} {kt n : Nat} {w : World}
theorem seg_out (B : Below A base (env :: outer) g) (B₀ : h₀.FunFrames base outer) (hfL : env.frame = some L) (FG : Fr h₀ L g m) (F : Fr g L' h₂ m') (N : News g L' h₂ news) (hk : ∀ b o, h₂.get? b = some o → s.heap.get? b = some o)
    (he : s.heap.get? e = some (excObj d tp .none)) (hen : h₂.get? e = none) (hdn : h₂.get? d = none) (hde : d ≠ e) (hd : s.heap.get? d = some (msgDict (hMsg w) kt n msg t)) (hks : scope.kind = .function)
    (h : ∀ h' T, ExcOut w h₀ L m outer news h' e d tp T msg t → Q () { s with heap := h' }) :
    wpAny M (A.deeper (envOf name scope L' a cd)) (leaving (envOf name scope L' a cd) (.ref e)) Q E s := by
  have K' := B.push (name := name) (scope := scope) (a := a) (cd := cd) F hks
  refine seg_leave K'.stack (K'.frames.of_keeps fun b o ho _ => ⟨o, hk b o ho, rfl⟩) rfl he fun h₄ T mv hT fly => h h₄ T ?_
  have hg2 : ∀ b o, g.get? b = some o → s.heap.get? b = some o := fun b o q => hk b o (F.keep b o q)
  have ne_of : ∀ b o, h₂.get? b = some o → b ∉ [e] := fun b o q z => by rw [List.mem_singleton.mp z, hen] at q; cases q
  have gL' : g.get? L' = none := Heap.get?_none_of_le F.above
  have hfs : ((envOf name scope L' a cd) :: env :: outer).filterMap (·.frame) = L' :: L :: outer.filterMap (·.frame) := by
    rw [List.filterMap_cons, List.filterMap_cons, hfL]; rfl
  rw [hfs] at mv
  have hL : ∃ oL, g.get? L = some oL := by obtain ⟨o, _, _, ho, _⟩ := FG.ns; exact ⟨o, ho⟩
  obtain ⟨oL, hoL⟩ := hL
  have outerIn : ∀ b ∈ outer.filterMap (·.frame), ∃ o, h₀.get? b = some o := fun b hb => let ⟨o, ho, _⟩ := (B₀.mem hb).2; ⟨o, ho⟩
  refine ⟨fun b o q hb => ?_, fun b o q => mv.slots b o (hg2 b o (FG.keep b o q)) (ne_of b o (F.keep b o (FG.keep b o q))), ?_, fun p hp => ?_, fly, ⟨kt, n, ?_⟩, ?_, ?_, hde, ?_, ?_, ?_, ?_, fun p hp => ⟨?_, ?_, ?_⟩⟩
  · refine mv.keep b o (hg2 b o (FG.keep b o q)) (ne_of b o (F.keep b o (FG.keep b o q))) fun z => ?_
    rcases List.mem_cons.mp z with z | z
    · rw [z] at q; have := FG.keep _ _ q; rw [gL'] at this; cases this
    · rcases List.mem_cons.mp z with z | z
      · exact absurd (Nat.lt_of_lt_of_le (Heap.lt_size q) FG.above) (by rw [z]; exact Nat.lt_irrefl _)
      · exact hb z
  · exact ns_slots FG.ns fun o q => mv.slots L o (hg2 L o q) (ne_of L o (F.keep L o q))
  · obtain ⟨p1, p2, p3⟩ := N p hp
    refine mv.keep p.1 p.2 (hk _ _ p1) (ne_of _ _ p1) fun z => ?_
    rcases List.mem_cons.mp z with z | z
    · exact p2 z
    · rcases List.mem_cons.mp z with z | z
      · rw [z, hoL] at p3; cases p3
      · obtain ⟨o, ho⟩ := outerIn _ z
        rw [FG.keep _ _ ho] at p3; cases p3
  · refine mv.keep d _ hd (fun z => hde (List.mem_singleton.mp z)) fun z => ?_
    rcases List.mem_cons.mp z with z | z
    · have := F.ns; obtain ⟨o, _, _, ho, _⟩ := this; rw [z, ho] at hdn; cases hdn
    · rcases List.mem_cons.mp z with z | z
      · rw [z, F.keep _ _ hoL] at hdn; cases hdn
      · obtain ⟨o, ho⟩ := outerIn _ z
        rw [F.keep _ _ (FG.keep _ _ ho)] at hdn; cases hdn
  · intro z; rw [z, F.keep _ _ hoL] at hen; cases hen
  · intro z; rw [z, F.keep _ _ hoL] at hdn; cases hdn
  · exact none_keep (fun b o q => F.keep b o (FG.keep b o q)) hen
  · exact none_keep (fun b o q => F.keep b o (FG.keep b o q)) hdn
  · exact none_keep (fun b o q => hg2 b o (FG.keep b o q)) hT
  · intro z; rw [z, hg2 _ _ hoL] at hT; cases hT
  · intro z; have := (N p hp).1; rw [z, hen] at this; cases this
  · intro z; have := (N p hp).1; rw [z, hdn] at this; cases this
  · intro z; have := hk _ _ (N p hp).1; rw [z, hT] at this; cases this
/-- raise of a made SegmentError -/
theorem seg_raise {A : Around} {E : Value → Shared → Prop} {s : Shared} {w : World} {x : Expr} {pos : Pos} {Q : Flow → Shared → Prop} {env : Env} (hh : A.handled = none)
    (h : wpAny (model PySem.Challenge.rw_xm0799_01.row.prog w) A (eval x env) (fun v s₁ => ∃ e d tp, v = .ref e ∧ (Mine.hx.heap_39 w.params).In s₁.heap ∧ s₁.heap.get? e = some (excObj d tp .none) ∧ E (.ref e) s₁) E s) :
    wpAny (model PySem.Challenge.rw_xm0799_01.row.prog w) A (exec (.Raise (some x) none pos) env) Q E s := by
  rw [arm_exec_Raise]
  refine wpAny_bind (wpAny_standAt ?_)
  show wpAny (model PySem.Challenge.rw_xm0799_01.row.prog w) A (raiseStmt env (some (do let v ← eval x env; standAt pos; pure v)) none) Q E s
  unfold raiseStmt
  refine wpAny_bind (wpAny_bind (wpAny_mono h (fun v s₁ h₁ => wpAny_bind (wpAny_standAt (wpAny_pure ?_))) fun _ _ x => x))
  obtain ⟨e, d, tp, rfl, X, he, hE⟩ := h₁
  obtain ⟨hp, g, dr, tk, os⟩ := s₁
  have hC : hp.get? 44 = some (excClassObj (Str.ofString "SegmentError") (Str.ofString "SegmentError") 44 43 [.ref 31] [.ref 31, .type "Exception", .type "BaseException", .type "object"] true [] [] false none none (some (.ref 35)) none (some (.str (Str.ofString "SegmentError") 218)) (some (.str (Str.ofString "SegmentError") 226)) (some (.bool true)) "Exception.__new__") := X 44 _ rfl
  have hcB : ((Value.ref 44) :: [Value.ref 31, .type "Exception", .type "BaseException", .type "object"]).contains (.type "BaseException") = true := by decide
  repeat (first | with_reducible refine wpAny_loadPart_at he ?_ | with_reducible refine wpAny_loadPart_at hC ?_ | (with_reducible refine wpAny_isSubtype_exc hC ?_; rw [hcB]) | wp_step)
  exact wpAny_raiseNew_none hh hE
end
end Mine
end

section
open PySem PySem.W PyProof.Rows PySem.Calls
set_option maxRecDepth 100000
set_option maxHeartbeats 4000000
namespace Mine

theorem map3 {x y z : Str} {v u t : Value} {m : Str → Option Value} (h1 : m y = some u) (h2 : m z = some t) :
    (fun n => if n = x then some v else m n) = fun n => if n = x then some v else if n = y then some u else if n = z then some t else m n := by
  funext n
  by_cases e1 : n = x
  · simp [e1]
  · by_cases e2 : n = y
    · subst e2; simp [e1, h1]
    · by_cases e3 : n = z
      · subst e3; simp [e1, e2, h2]
      · simp [e1, e2, e3]
theorem map2 {y z : Str} {u t : Value} {m : Str → Option Value} (h1 : m y = some u) (h2 : m z = some t) :
    m = fun n => if n = y then some u else if n = z then some t else m n := by
  funext n
  by_cases e2 : n = y
  · subst e2; simp [h1]
  · by_cases e3 : n = z
    · subst e3; simp [e2, h2]
    · simp [e2, e3]
def PJ (w : World) (d : Addr) (tl : List (Addr × Obj)) (kss : List (List Int)) (i : Nat) (m : Str → Option Value) (nx : List (Addr × Obj)) : Prop :=
  ∃ (o : Obj) (kvs : List (Int × Value)) (st : PSt) (mv : Value), nx = (d, o) :: tl ∧ o.IsDictOf (PySem.intKind PySem.Challenge.rw_xm0799_01.row.prog w) kvs ∧ KvAre kvs st.1 ∧ pfold ([], none) (kss.take i) = .ok st ∧
    m (Str.ofString "parts") = some (.ref d) ∧ m (Str.ofString "many") = some mv ∧ ManyIs mv st.2 ∧ st.1.length ≤ i
local macro_rules | `(tactic| walk_at "call ref") => `(tactic| (k_here; k_dflt (refine isprof_ok (by k_asm) (by k_asm) (by k_asm) (by k_asm) (by k_asm) (by first | exact rfl | assumption) (by ktr_room) (by assumption) (by assumption) ?_); intro h9 tk9 F9 N9; (try dsimp only); (try k_fold)))
local macro_rules | `(tactic| walk_at "exec Raise some none") => `(tactic| (k_here; refine seg_raise rfl ?_))
local macro_rules | `(tactic| walk_at "compareOp In int ref") => `(tactic| (k_here; k_dflt (refine kda_in (knd := PySem.intKind _ _) (by k_asm) (by k_mem) (by k_asm) (by k_asm) (intKind_is _ _ _ _) _ valueAt_some ?_)))
local macro_rules | `(tactic| walk_at "setItem ref int") => `(tactic| (k_here; k_dflt (refine kda_set (knd := PySem.intKind _ _) (by k_asm) (by k_asm) (UpdF.head (by assumption)) (by k_asm) (intKind_is _ _ _ _) (by assumption) ?_); intro h' o' F' N' hd'; (try dsimp only at N')))
theorem parts_ok {w : World} {mean : ExcName → Option Value} {mg mb : Str → Option Value} {dp un : Nat} {gd : Option (List Code)} {cn : Str} {cs : Scope} {a : Addr} {ccd : Value} {cl : List (Str × Addr)} {outer : List Env} {A₀ : Around} {base h₀ : Heap} {L : Addr} {m : Str → Option Value} {s : Shared} {Q E : Value → Shared → Prop}
   {rest : List (Addr × Obj)} {pl : Addr} {vs : List Value} {n : Nat} {kss : List (List Int)}
   (B : Below A₀ base outer h₀) (F : Fr h₀ L s.heap m) (X : (Mine.hx.heap_39 w.params).In h₀) (N : News h₀ L s.heap ((pl, listOf vs.toArray n) :: rest))
   (T : Top Mine.hx.view_39 (looseW Mine.hx.view_39 []) mean mg mb h₀) (hk : cs.kind = .function)
   (hd : dp ≤ 390) (hun : un ≤ 900) (hvs : BysAre vs kss) (hlen : vs.length ≤ 64)
   (hret : ∀ (tup d : Addr) (o : Obj) (kvs : List (Int × Value)) (st : PSt) (mv : Value) (h' : Heap) (tk' : Nat), pfold ([], none) kss = .ok st → o.IsDictOf (PySem.intKind PySem.Challenge.rw_xm0799_01.row.prog w) kvs → KvAre kvs st.1 → ManyIs mv st.2 → st.1.length ≤ vs.length → (d == sysModules) = false →
      Fr h₀ L h' m → News h₀ L h' ((tup, ({ cls := .type "tuple", data := .seq #[.ref d, mv] } : Obj)) :: (d, o) :: (pl, listOf vs.toArray n) :: rest) → Q (.ref tup) { s with heap := h', toks := tk' })
   (hexc : ∀ (bad : Bool) (e d tp T : Addr) (t : Tok) (h' : Heap) (tk' : Nat), pfold ([], none) kss = .error bad →
      ExcOut w h₀ L m outer ((pl, listOf vs.toArray n) :: rest) h' e d tp T (if bad = true then Str.ofString "the parts of a profile do not fit" else Str.ofString "a part of a profile has a wrong number") t → E (.ref e) { s with heap := h', toks := tk' }) :
   wpAny (model PySem.Challenge.rw_xm0799_01.row.prog w) (ktrTop dp un gd cn cs L a ccd cl outer) (call (.ref 60) [.ref pl]) Q E s := by
  have hdr : dp + 3 < recursionLimit := by simp only [recursionLimit]; omega
  revert X; k_fill; intro X
  refine wpAny_call ?_
  k_dflt ktr_enter
  k_steps
  (rename News _ _ _ _ => N1)
  (rename Fr _ _ _ _ => F1)
  (rename Obj.IsDictOf (PySem.intKind _ _) _ [] => hd1)
  (rename _ ∧ AllLt _ _ => l1)
  (rename Obj.IsDictOf (PySem.strKind _ _) _ [] => hd0)
  clear hd0
  (with_unfolding_all refine' For_invVF F1 ?k1 ?k2 ?_; (case k1 => exact rfl); (case k2 => exact rfl))
  walk1
  k_dflt (refine kdl_iter (PJ w _ ((pl, listOf vs.toArray n) :: rest) kss) rfl (.tail _ (.head _)) F1 N1 ⟨_, [], ([], none), .none, rfl, hd1, .nil, rfl, rfl, rfl, .none, Nat.le_refl _⟩ ?turn ?done)
  case done =>
    rintro m₁ nx hh tk' ⟨o, kvs, ⟨es, many⟩, mv, rfl, hdo, hkv, hpf, hm1, hm2, hmv, hle⟩ F2 N2
    rw [map2 hm1 hm2] at F2
    clear F1 N1 hd1
    dsimp only at F2 N2 ⊢
    (try k_fold)
    k_steps
    rw [hvs.length, List.take_length] at hpf
    exact hret _ _ _ _ _ _ _ _ hpf hdo hkv hmv hle (by assumption) (by assumption) (by assumption)
  case turn =>
    rintro i v m₁ nx hh tk' own hv hoff hm ⟨o, kvs, ⟨es, many⟩, mv, rfl, hdo, hkv, hpf, hm1, hm2, hmv, hle⟩ F2 N2
    obtain ⟨b, t, ks, rfl, hks, hb, hlk⟩ := hvs.get hv
    rw [map3 hm1 hm2] at F2
    have hil : i < vs.length := (List.getElem?_eq_some_iff.mp hv).1
    have hz : kvs.length ≤ sizeLine := by have h9 := hkv.length; dsimp only at hle h9; rw [sizeLine_eq]; omega
    clear F1 N1 hd1
    dsimp only at F2 N2 ⊢
    have hoffd := offd l1 hoff
    have hkeys := hkv.keys
    dsimp only at hkeys
    cases hmv
    all_goals (try k_fold)
    all_goals k_steps
    all_goals (try simp only [show Int.toNat 12 = 12 from rfl, show Int.toNat 13 = 13 from rfl, show Int.toNat 14 = 14 from rfl] at *)
    all_goals first
      | (refine mk_exc (by k_in) rfl ?dd ?uu ?hm
         case dd => (simp only [depth_deeper, depth_in1]; show dp + 1 ≤ 400; exact Nat.le_trans (Nat.succ_le_succ hd) (by decide))
         case uu => (simp only [units_deeper, units_in1]; show un + 3 ≤ 1000; exact Nat.le_trans (Nat.add_le_add_right hun 3) (by decide))
         case hm =>
           intro e d tp kt nn h3 tk3 hk3 he3 hd3 hde hE hD
           refine ⟨e, d, tp, rfl, Frag.In.keeps (by k_in) hk3, hE, ?_⟩
           k_unfold
           refine seg_out (news := (pl, listOf vs.toArray n) :: rest) (by assumption) B.frames rfl (by assumption) (by assumption) (cb_drop (by assumption) ?nn) hk3 hE he3 hd3 hde hD rfl ?_
           case nn => (intro p hp; exact .tail _ (List.mem_append.mpr (.inl hp)))
           intro h4 T xo
           first
             | exact hexc false e d tp T _ h4 tk3 (pfold_err hks hpf (pstep_odd (by assumption) (by unfold oddP; omega))) xo
             | (refine hexc true e d tp T _ h4 tk3 (pfold_err hks hpf (pstep_unfit (by assumption) (by unfold oddP; omega) ?_)) xo
                unfold unfitP
                dsimp only
                first
                  | (right; rw [← hkeys]; assumption)
                  | (left; refine ⟨by simp, ?_⟩; intro q; have q := Option.some.inj q; omega)))
      | skip
    all_goals by_cases hip : isProf ks
    all_goals first
      | (exfalso; exact absurd ‹isProf ks› (by assumption))
      | skip
    all_goals first
      | (have hnp : ¬ isProf ks := by assumption
         refine InvEndG.intro (nx := _ :: _ :: rest) (by assumption) (by assumption) ⟨.tail _ (.head _), _, _, (es, _), _, rfl, hdo, hkv, pfold_take_ok hks hpf (pstep_other hnp), rfl, rfl, by first | exact .none | exact .int _ _, Nat.le_succ_of_le hle⟩ ?_ ?_ ?_
         · exact hoff
         · intro p hp; exact (List.mem_append (s := _ :: _ :: rest)).mpr (.inl hp)
         · intro p hp; exact (List.mem_append (s := _ :: _ :: rest)).mpr (.inr hp))
      | skip
    all_goals
        (have hst : ∀ v, stored kvs (ks.getD 12 0) v = kvs ++ [(ks.getD 12 0, v)] := fun v => stored_new (by assumption)
         have hpb : KBw.bInts (KBy.picked b (some 14) none) = ks.drop 14 := by
           rw [KBc.ints_picked hb]
           have hc : clipAt ks.length 14 = min 14 ks.length := KBc.clip_lit _ _
           show (ks.drop (clipAt ks.length 14)).take (ks.length - clipAt ks.length 14) = ks.drop 14
           rw [hc, Nat.min_eq_left (by omega), List.take_of_length_le (by simp)]
         refine InvEndG.intro (nx := _ :: _ :: rest) (by assumption) (by assumption) ⟨.tail _ (.head _), _, _, (es ++ [(ks.getD 12 0, ks.drop 14)], some (ks.getD 13 0)), _, rfl, by assumption, by rw [hst]; exact hkv.snoc hpb, pfold_take_ok hks hpf (pstep_ok (by assumption) (by unfold oddP; omega) ?_), rfl, rfl, .int _ _, ?_⟩ ?_ ?_ ?_
         · unfold unfitP
           dsimp only
           rintro (⟨h1, h2⟩ | h1)
           · first | exact h1 rfl | (apply h2; congr 1)
           · rw [← hkeys] at h1; exact absurd h1 (by assumption)
         · rw [List.length_append]; exact Nat.succ_le_succ hle
         · exact hoff
         · intro p hp; exact (List.mem_append (s := _ :: _ :: rest)).mpr (.inl hp)
         · intro p hp; exact (List.mem_append (s := _ :: _ :: rest)).mpr (.inr hp))
end Mine
end

section
open PySem PySem.W PyProof.Rows PySem.Calls
namespace Mine
/-- a comprehension by what holds between its turns -/
theorem comp_rest {prog : Program} {w : World} {A : Around} {h₀ : Heap} {L : Addr} {m : Str → Option Value} {env : Env} {elt : Expr} {x : Str} {scope : Scope} {cl : List (Str × Addr)} {s : Shared} {S : List (Addr × Obj) → Prop} {P : Nat → Value → Prop} {Fin : List Value → List (Addr × Obj) → Prop} {news : List (Addr × Obj)}
    {n : Nat} (Inv : Nat → List Value → List (Addr × Obj) → Prop) (h0 : Inv 0 [] news)
    (turn : ∀ i v ys nw I oI C oC D m₂ h tk (E' : Value → Shared → Prop), i < n → P i v → Inv i ys nw → LCg.NsObj oC m₂ → m₂ x = some v → Fr h₀ L h m → News h₀ L h ((I, oI) :: (C, oC) :: (D, LCg.lst ys) :: nw) → LCg.Off3 I C D nw → ((@Ne Nat I C) ∧ (@Ne Nat I D) ∧ (@Ne Nat C D)) →
      wpAny (model prog w) A (eval elt (compEnvC scope cl C env)) (LCg.CompEnd h₀ L m { s with heap := h, toks := tk } I oI C oC D (LCg.lst ys) S (fun y nw' => Inv (i + 1) (ys ++ [y]) nw')) E' { s with heap := h, toks := tk })
    (fin : ∀ ys nw, Inv n ys nw → Fin ys nw) : LCg.CompRest prog w A h₀ L m env elt x scope cl s S P Fin n 0 [] news := by
  have key : ∀ (j i : Nat) (ys : List Value) (nw : List (Addr × Obj)), i + j = n → Inv i ys nw → LCg.CompRest prog w A h₀ L m env elt x scope cl s S P Fin j i ys nw := by
    intro j
    induction j with
    | zero =>
      intro i ys nw hi hy
      have e : i = n := by omega
      subst e
      exact LCg.CompRest.zero (fin ys nw hy)
    | succ j ih =>
      intro i ys nw hi hy
      refine LCg.CompRest.succ ?_
      intro v I oI C oC D m₂ h tk E' hv hC hx F N off ne
      refine wpAny_mono (turn i v ys nw I oI C oC D m₂ h tk E' (by omega) hv hy hC hx F N off ne) (fun y s₂ hq => ?_) fun _ _ e => e
      obtain ⟨h', tk', nw', e, F', N', off', hS, hi'⟩ := hq
      exact ⟨h', tk', nw', e, F', N', off', hS, ih (i + 1) _ _ (by omega) hi'⟩
  exact key n 0 [] news (by omega) h0
/-- the rows that the law builds: whether it is a part, and its octets -/
abbrev Row := Bool × List Int
abbrev rowTup (part : Bool) (t : Tok) (l : Addr) (k : Nat) : Obj := { cls := .type "tuple", data := .seq #[.str (if part = true then Str.ofString "part" else Str.ofString "other") t, .ref l] k }
def payOf (r : Row) : List Int := if r.1 = true then [73, 67, 67, 95, 80, 82, 79, 70, 73, 76, 69, 0] ++ r.2 else r.2
inductive RowsAre (news : List (Addr × Obj)) : List Value → List Row → Prop
  | nil : RowsAre news [] []
  | cons {r l : Addr} {t : Tok} {k k' : Nat} {vs : List Value} {part : Bool} {ns : List Int} {rvs : List Value} {rws : List Row} :
      (r, rowTup part t l k) ∈ news → (l, listOf vs.toArray k') ∈ news → IntsAre vs ns → KBa.In ns → ns.length ≤ 50 → RowsAre news rvs rws → RowsAre news (.ref r :: rvs) ((part, ns) :: rws)
theorem RowsAre.length {news : List (Addr × Obj)} {rvs : List Value} {rws : List Row} (h : RowsAre news rvs rws) : rvs.length = rws.length := by
  induction h with
  | nil => rfl
  | cons _ _ _ _ _ _ ih => simp [ih]
theorem RowsAre.mono {news news' : List (Addr × Obj)} {rvs : List Value} {rws : List Row} (h : RowsAre news rvs rws) (hs : ∀ p ∈ news, p ∈ news') : RowsAre news' rvs rws := by
  induction h with
  | nil => exact .nil
  | cons a b c d e _ ih => exact .cons (hs _ a) (hs _ b) c d e ih
theorem RowsAre.append {news : List (Addr × Obj)} {rvs rvs' : List Value} {rws rws' : List Row} (h : RowsAre news rvs rws) (h' : RowsAre news rvs' rws') : RowsAre news (rvs ++ rvs') (rws ++ rws') := by
  induction h with
  | nil => exact h'
  | cons a b c d e _ ih => exact .cons a b c d e ih
theorem RowsAre.take {news : List (Addr × Obj)} {rvs : List Value} {rws : List Row} (h : RowsAre news rvs rws) : ∀ n, RowsAre news (rvs.take n) (rws.take n) := by
  induction h with
  | nil => intro n; simp; exact .nil
  | cons a b c d e _ ih =>
    intro n
    cases n with
    | zero => exact .nil
    | succ n => exact .cons a b c d e (ih n)
theorem RowsAre.drop {news : List (Addr × Obj)} {rvs : List Value} {rws : List Row} (h : RowsAre news rvs rws) : ∀ n, RowsAre news (rvs.drop n) (rws.drop n) := by
  induction h with
  | nil => intro n; simp; exact .nil
  | cons a b c d e r ih =>
    intro n
    cases n with
    | zero => exact .cons a b c d e r
    | succ n => exact ih n
theorem RowsAre.get {news : List (Addr × Obj)} {rvs : List Value} {rws : List Row} (h : RowsAre news rvs rws) : ∀ {i : Nat} {v : Value}, rvs[i]? = some v →
    ∃ (r l : Addr) (t : Tok) (k k' : Nat) (vs : List Value) (part : Bool) (ns : List Int), v = .ref r ∧ rws[i]? = some (part, ns) ∧ (r, rowTup part t l k) ∈ news ∧ (l, listOf vs.toArray k') ∈ news ∧ IntsAre vs ns ∧ KBa.In ns ∧ ns.length ≤ 50 := by
  induction h with
  | nil => intro i v e; simp at e
  | @cons r l t k k' vs part ns rvs rws a b c d e _ ih =>
    intro i v q
    cases i with
    | zero => simp at q; exact ⟨r, l, t, k, k', vs, part, ns, q.symm, rfl, a, b, c, d, e⟩
    | succ i => simp at q; simpa using ih q
theorem bys_next {ys : List Value} {rws : List Row} {i : Nat} {part : Bool} {ns : List Int} {t : Tok} (h : BysAre ys ((rws.take i).map payOf)) (hr : rws[i]? = some (part, ns)) (hI : KBa.In (payOf (part, ns))) (hl : (payOf (part, ns)).length ≤ 64) :
    BysAre (ys ++ [.bytes (byteArr (payOf (part, ns))) t]) ((rws.take (i + 1)).map payOf) := by
  rw [List.take_add_one, hr, List.map_append]
  exact h.snoc (KBa.ints_make hI) hl
end Mine
end

section
open PySem PySem.W PyProof.Rows PySem.Calls
set_option maxRecDepth 100000
namespace Mine
theorem ints_of {vs : List Value} {ns : List Int} (hl : vs.length = ns.length) (h : ∀ (j : Nat) (v : Value), vs[j]? = some v → ∃ n : Int, ns[j]? = some n ∧ ∃ t : Tok, v = Value.int n t) : IntsAre vs ns := by
  induction vs generalizing ns with
  | nil => cases ns with
    | nil => exact .nil
    | cons _ _ => simp at hl
  | cons v vs ih => cases ns with
    | nil => simp at hl
    | cons n ns =>
      obtain ⟨k, hk, t, rfl⟩ := h 0 v rfl
      simp at hk; subst hk
      exact .cons _ t (ih (by simpa using hl) fun j u e => by simpa using h (j + 1) u (by simpa using e))
section
variable {w : World} {A : Around} {E : Value → Shared → Prop} {s : Shared} {h₀ : Heap} {L d : Addr} {m : Str → Option Value} {news : List (Addr × Obj)} {Q : Value → Shared → Prop} {o : Obj} {kvs : List (Int × Value)}
/-- sorted over a dict of int keys -/
theorem sorted_dict (hh : A.handled = none) (F : Fr h₀ L s.heap m) (N : News h₀ L s.heap news) (hm : (d, o) ∈ news) (hd : o.IsDictOf (PySem.intKind PySem.Challenge.rw_xm0799_01.row.prog w) kvs) (lo : (d == sysModules) = false) (hn : kvs.length < 64)
    (h : ∀ D vs' ns' c h' tk, Fr h₀ L h' m → News h₀ L h' ((D, listOf (List.toArray vs') c) :: news) → (∀ q ∈ news, q.1 < D) → IntsAre vs' ns' → ns'.Perm (kvs.map (·.1)) → ns'.Pairwise (fun x y => x ≤ y) → Q (.ref D) { s with heap := h', toks := tk }) :
    wpAny (model PySem.Challenge.rw_xm0799_01.row.prog w) A (call (.builtin "sorted") [.ref d]) Q E s := by
  obtain ⟨ep, hat⟩ := KdkAt.of hd
  refine kdu_sorted (kdl_dict (knd := PySem.intKind PySem.Challenge.rw_xm0799_01.row.prog w) (kvs := kvs) (ep := ep) lo) hh F N (hat.dictAt (N _ hm).1) (by rw [sizeLine_eq]; omega) fun D h' tk vs F' N' l1 hl hv => ?_
  have hI : IntsAre vs (kvs.map (·.1)) := ints_of (by simpa using hl) fun j v e => by
    obtain ⟨k, x, hx, hk⟩ := hv j v e
    obtain ⟨t, rfl⟩ := Value.isInt_shape hk
    exact ⟨k, by simp [hx], t, rfl⟩
  refine ksk_lsort (news' := fun o => (D, o) :: news) F' N' (fun o => .head fun p hp => Nat.ne_of_lt (l1 p hp)) (by simp) hI (by simpa using hn) fun vs' ns' c h'' F'' N'' hI' _ hp hP _ => ?_
  exact h D vs' ns' c h'' tk F'' N'' l1 hI' hp hP
end
def lookE (es : List (Int × List Int)) (k : Int) : List Int := ((es.find? fun p => p.1 = k).map (·.2)).getD []
theorem value_look {kvs : List (Int × Value)} {es : List (Int × List Int)} (h : KvAre kvs es) {k : Int} (hk : k ∈ kvs.map (·.1)) : ∃ b t, valueAt kvs k = some (.bytes b t) ∧ KBw.bInts b = lookE es k := by
  induction h with
  | nil => simp at hk
  | @cons k' b t ks kvs es hb _ ih =>
    by_cases e : k' = k
    · refine ⟨b, t, ?_, ?_⟩
      · simp [valueAt, e]
      · simp [lookE, e, hb]
    · have hk' : k ∈ kvs.map (·.1) := by
        rcases List.mem_cons.mp hk with q | q
        · exact absurd q.symm e
        · exact q
      obtain ⟨b', t', h1, h2⟩ := ih hk'
      refine ⟨b', t', ?_, ?_⟩
      · unfold valueAt at h1 ⊢
        rw [List.find?_cons]
        simpa [e] using h1
      · unfold lookE at h2 ⊢
        rw [List.find?_cons]
        simpa [e] using h2
/-- what _law_told hands back -/
def entD (es : List (Int × List Int)) (k : Int) : Dat := .tuple [.int k, .list ((lookE es k).map Dat.int)]
def manyD : Option Int → Dat
  | none => .none
  | some k => .int k
def badMsg (bad : Bool) : Str := if bad = true then Str.ofString "the parts of a profile do not fit" else Str.ofString "a part of a profile has a wrong number"
def ToldIs (kss : List (List Int)) (dat : Dat) : Prop := match pfold ([], none) kss with
  | .ok st => ∃ ns : List Int, ns.Perm (st.1.map (·.1)) ∧ ns.Pairwise (fun x y => x ≤ y) ∧ dat = .tuple [.list (ns.map (entD st.1)), manyD st.2, .str (Str.ofString "")]
  | .error bad => dat = .tuple [.list [], .none, .str (badMsg bad)]
theorem News.apart {h₀ h : Heap} {L : Addr} {news : List (Addr × Obj)} (N : News h₀ L h news) {a b : Addr} {x y : Obj} (ha : (a, x) ∈ news) (hb : (b, y) ∈ news) (hd : x.data ≠ y.data) : a ≠ b := fun e => by
  have h1 := (N _ ha).1
  have h2 := (N _ hb).1
  dsimp only at h1 h2
  rw [e, h2] at h1
  cases h1
  exact hd rfl
end Mine
end

section
open PySem PySem.W PyProof.Rows PySem.Calls
set_option maxRecDepth 100000
namespace Mine
section
variable {prog : Program} {w : World} {A : Around} {E : Value → Shared → Prop} {s : Shared}
theorem bytes_len_look : typeLookup (.type "bytes") "__len__" = pure (some (.builtin "bytes.__len__")) := by rw [typeLookup_type, builtinLookup_eq_fast]; kernel_rfl
abbrev OctAt (b : Array UInt8) (i : Nat) (v : Value) : Prop := ∃ c u, b[i]? = some c ∧ v = .int (c.toNat : Int) u
theorem extend_bytes {R : Result → Shared → Prop} (hh : A.handled = none) (b : Array UInt8) (t : Tok) (S : Addr) (res : Value) (c₀ : Nat) (hS : s.heap.get? S = some { cls := .type "list", data := .seq #[] c₀ })
    (hR : ∀ h' tk acc' c', (∀ b o, b ≠ S → s.heap.get? b = some o → h'.get? b = some o) → h'.get? S = some { cls := .type "list", dict := none, data := .seq acc' c', slots := #[] } →
      ItemsOf (OctAt b) acc' b.size → R (.ok (.ret res)) { s with heap := h', toks := tk }) (hn : b.size ≤ sizeLine) :
    wpAny (model prog w) A.in1 (Builtin.List.listExtendWith (.ref S) (.bytes b t) res)
      (fun fin s' => match fin with | .done f => R (.ok f) s' | .again c' => c'.quiet = true ∧ codeAny (model prog w) A c' R s') (fun e s' => R (.error e) s') s := by
  have hSI : S ≠ s.heap.objs.size := Nat.ne_of_lt (Heap.lt_size hS)
  have hSf : S ∉ [s.heap.objs.size] := fun hm => hSI (List.mem_singleton.mp hm)
  unfold Builtin.List.listExtendWith
  refine wpAny_bind (wpAny_typeOf (T := "bytes") (v := .bytes b t) rfl ?_)
  have h1 : Builtin.List.listSameRef (.ref S) (.bytes b t) = false := rfl
  have h2 : (Value.type "bytes" == Value.type "list") = false := by decide
  have h3 : (Value.type "bytes" == Value.type "tuple") = false := by decide
  simp only [h1, h2, h3, Bool.or_false, Bool.false_eq_true, if_false]
  refine wpAny_bind (KBw.pyIter_bytes ?_)
  refine wpAny_bind (wpAny_holding ?_)
  unfold Builtin.List.listLengthHint
  refine wpAny_bind (wpAny_specialOf (T := "bytes") (v := .bytes b t) rfl bytes_len_look ?_)
  wp_delta
  refine wpAny_bind (wpAny_isInstance (T := "bytes") (v := .bytes b t) (b := true) rfl (by rw [isSubtype_type]; kernel_rfl) ?_)
  show wpAny _ _ (typeOf (Value.bytes b t) >>= _) _ _ _
  refine wpAny_bind (wpAny_typeOf (T := "bytes") (v := .bytes b t) rfl ?_)
  refine wpAny_pure ?_
  rw [if_neg (by decide)]
  refine wpAny_pure ⟨plainId_quiet F.plain_extend_loop _, codeAny_extend_loopS (KBw.walks (A := A.in1) hh s.heap.objs.size b t).toS hn _ hSf _ b.size 0 _ _ _ rfl (Nat.zero_le _) ⟨_, Heap.get?_push_size _ rfl, rfl, rfl⟩ (Heap.get?_push_of_some _ hS) (ItemsOf.nil _) fun s' acc' c' hm hS' hacc => ?_⟩
  rw [Moved.eq_with hm]
  refine hR s'.heap s'.toks acc' c' (fun b ob hb e => hm.heap b ob (fun hmem => ?_) (Heap.get?_push_of_some _ e)) hS' hacc
  rcases List.mem_cons.mp hmem with e' | hmem
  · exact hb e'
  · exact absurd (Heap.lt_size e) (by rw [List.mem_singleton.mp hmem]; exact Nat.lt_irrefl _)
theorem list_init_bytes {R : Result → Shared → Prop} (hh : A.handled = none) (b : Array UInt8) (t : Tok) (S : Addr) (hS : s.heap.get? S = some { cls := .type "list", data := .seq #[] })
    (hR : ∀ h' tk acc' c', (∀ b o, b ≠ S → s.heap.get? b = some o → h'.get? b = some o) → h'.get? S = some { cls := .type "list", dict := none, data := .seq acc' c', slots := #[] } →
      ItemsOf (OctAt b) acc' b.size → R (.ok (.ret .none)) { s with heap := h', toks := tk }) (hn : b.size ≤ sizeLine) :
    wpAny (model prog w) A.in1 (Builtin.«list.__init__» ⟨[.ref S, .bytes b t], []⟩)
      (fun fin s' => match fin with | .done f => R (.ok f) s' | .again c' => c'.quiet = true ∧ codeAny (model prog w) A c' R s') (fun e s' => R (.error e) s') s := by
  show wpAny _ _ (do let old ← Builtin.List.listItems (.ref S); Builtin.List.listUpdate (.ref S) (fun _ => #[]); letGo old.toList.reverse; Builtin.List.listExtendWith (.ref S) (.bytes b t) .none) _ _ s
  refine wpAny_bind ?_
  unfold Builtin.List.listItems
  refine wpAny_bind (wpAny_seqItems hS rfl (wpAny_pure ?_))
  show wpAny _ _ (updateSeq S (fun _ => #[]) >>= fun _ => letGo (#[] : Array Value).toList.reverse >>= fun _ => Builtin.List.listExtendWith (.ref S) (.bytes b t) .none) _ _ s
  refine wpAny_bind (wpAny_updateSeq hS rfl ?_)
  have hS₂ := Heap.get?_update_self (Obj.mapSeq (fun _ => (#[] : Array Value))) hS rfl
  have oth : ∀ b o, b ≠ S → s.heap.get? b = some o → (s.heap.update S (Obj.mapSeq (fun _ => (#[] : Array Value)))).get? b = some o :=
    fun b o hb e => (Heap.get?_update_other _ _ (Ne.symm hb)).trans e
  refine wpAny_bind (wpAny_letGo ?_)
  refine extend_bytes (hn := hn) hh b t S .none _ hS₂ fun h' tk acc' c' hk hS' hacc => ?_
  exact hR h' tk acc' c' (fun b o hb e => hk b o hb (oth b o hb e)) hS' hacc
theorem call_list_bytes {Q : Value → Shared → Prop} (hh : A.handled = none) (b : Array UInt8) (t : Tok)
    (hQ : ∀ h' tk acc' c', (∀ b o, s.heap.get? b = some o → h'.get? b = some o) →
      h'.get? s.heap.objs.size = some { cls := .type "list", dict := none, data := .seq acc' c', slots := #[] } → ItemsOf (OctAt b) acc' b.size → Q (.ref s.heap.objs.size) { s with heap := h', toks := tk }) (hn : b.size ≤ sizeLine) :
    wpAny (model prog w) A (call (.type "list") [.bytes b t]) Q E s := by
  refine callType_codes (Q₁ := fun obj s₁ => obj = .ref s.heap.objs.size ∧ s₁ = { s with heap := s.heap.push { cls := .type "list", data := .seq #[] } }) F.called_list (F.typeCall_list_1 _) F.entry_list_init
    (code_list_new _ ⟨rfl, rfl⟩) fun obj s₁ h₁ => ?_
  obtain ⟨rfl, rfl⟩ := h₁
  have hS : (s.heap.push { cls := .type "list", data := .seq #[] }).get? s.heap.objs.size = some { cls := .type "list", data := .seq #[] } := Heap.get?_push_size _ rfl
  refine ⟨⟨_, hS, rfl⟩, F.args_list_init_2 _ _, list_init_bytes (A := A.in1) (hn := hn) hh b t _ hS fun h' tk acc' c' hk hS' hacc => ?_⟩
  exact ⟨rfl, hQ h' tk acc' c' (fun b o e => hk b o (Nat.ne_of_lt (Heap.lt_size e)) (Heap.get?_push_of_some _ e)) hS' hacc⟩
/-- list(bytes), over the ledger -/
theorem list_bytes_K {h₀ : Heap} {L : Addr} {m : Str → Option Value} {news : List (Addr × Obj)} {ks : List Int} {b : Array UInt8} {t : Tok} {Q : Value → Shared → Prop} (hh : A.handled = none) (F : Fr h₀ L s.heap m) (N : News h₀ L s.heap news) (hk : KBw.bInts b = ks) (hn : ks.length ≤ 4096)
    (h : ∀ D us c h' tk, Fr h₀ L h' m → News h₀ L h' ((D, listOf (List.toArray us) c) :: news) → (∀ p ∈ news, p.1 < D) → IntsAre us ks → Q (.ref D) { s with heap := h', toks := tk }) :
    wpAny (model prog w) A (call (.type "list") [.bytes b t]) Q E s := by
  subst hk
  refine call_list_bytes hh b t (fun h' tk acc c hk hD hI => ?_) (by rw [KBw.ints_length] at hn; rw [sizeLine_eq]; omega)
  have hD' : h'.get? s.heap.objs.size = some (listOf (List.toArray acc.toList) c) := by
    rw [Array.toArray_toList]
    exact hD
  refine h _ acc.toList c h' tk (F.keeps hk) (news_pushed F N hk hD' rfl) (fun p hp => Heap.lt_size (N p hp).1) (ints_of (by rw [Array.length_toList, KBw.ints_length]; exact hI.1) fun j v hj => ?_)
  obtain ⟨c', u, hc, rfl⟩ := hI.2 j v (by rw [← hj, Array.getElem?_toList])
  exact ⟨_, KBw.ints_get hc, u, rfl⟩
end
end Mine
end

section
open PySem PySem.W PySem.W.X PyProof.Rows PySem.Calls
set_option maxRecDepth 100000
set_option maxHeartbeats 4000000
namespace Mine
def GotMsg (s : Shared) (msg : Str) (t : Tok) (Q : Value → Shared → Prop) : Prop := ∀ tk', Q (.str msg t) { s with toks := tk' }
theorem GotMsg.use {s : Shared} {msg : Str} {t : Tok} {Q : Value → Shared → Prop} {tk : Nat} (H : GotMsg s msg t Q) : Q (.str msg t) { s with heap := s.heap, toks := tk } := H tk
def A0h (v : Option Value) : Around := { handled := v, depth := 400, frames := none, guards := none, units := 1000 }
local macro_rules | `(tactic| x_close) => `(tactic| exact GotMsg.use (by assumption))
theorem get_msg0 {w : World} {s : Shared} {Q E : Value → Shared → Prop} {e d tp : Addr} {tb : Value} {tk kt n : Nat} {msg : Str} {t : Tok} {hv : Option Value} (X : (Mine.hx.heap_39 w.params).In s.heap)
   (he : s.heap.get? e = some ⟨.ref 44, some d, .fields #[.ref tp, tb, .none, .none, .bool false, .none], #[]⟩)
   (hd : s.heap.get? d = some ⟨.type "dict", none, .dict #[⟨hMsg w, .str ⟨#[109, 101, 115, 115, 97, 103, 101]⟩ kt, .str msg t⟩] n, #[]⟩) (H : GotMsg s msg t Q) :
   wpAny (model PySem.Challenge.rw_xm0799_01.row.prog w) (A0h hv) (call (.builtin "BaseException.__getattribute__") [.ref e, .str ⟨#[109, 101, 115, 115, 97, 103, 101]⟩ tk]) Q E s := by
  revert X; k_fill; intro X
  generalize PySem.Challenge.rw_xm0799_01.row.prog = pr
  x_run
theorem get_msg {w : World} {A : Around} {s : Shared} {Q E : Value → Shared → Prop} {e d tp : Addr} {tb : Value} {kt n : Nat} {msg : Str} {t : Tok} {expr : Bool} (hdp : A.depth < 395) (hun : A.units < 900) (X : (Mine.hx.heap_39 w.params).In s.heap)
   (he : s.heap.get? e = some ⟨.ref 44, some d, .fields #[.ref tp, tb, .none, .none, .bool false, .none], #[]⟩)
   (hd : s.heap.get? d = some ⟨.type "dict", none, .dict #[⟨hMsg w, .str ⟨#[109, 101, 115, 115, 97, 103, 101]⟩ kt, .str msg t⟩] n, #[]⟩) (H : GotMsg s msg t Q) :
   wpAny (model PySem.Challenge.rw_xm0799_01.row.prog w) A (getAttr (.ref e) (Str.ofString "message") expr) Q E s := by
  have L0 : Looks (model PySem.Challenge.rw_xm0799_01.row.prog w) s.heap (typeOf (.ref e)) (.ref 44) := (Looks.ld he).andThen .now
  have L1 := looks_findIn (M := model PySem.Challenge.rw_xm0799_01.row.prog w) X (show findIn (Mine.hx.heap_39 w.params) (.ref 44) "__getattribute__" = some (some (.builtin "BaseException.__getattribute__")) from rfl)
  have L2 := looks_findIn (M := model PySem.Challenge.rw_xm0799_01.row.prog w) X (show findIn (Mine.hx.heap_39 w.params) (.ref 44) "__getattr__" = some none from rfl)
  obtain ⟨hp, g, dr, tk, os⟩ := s
  unfold getAttr getAttrBy
  refine wpAny_bind (wpAny_mkText (wpAny_holding (wpAny_bind (L0.at (wpAny_bind (L1.at ?_))))))
  dsimp only
  rw [if_neg (by decide)]
  unfold getAttrByItsOwn hookBefore
  rw [if_pos (by rfl)]
  refine wpAny_bind (L2.at ?_)
  refine wpAny_bind (wpAny_attempt (wpAny_holding ?_))
  unfold callGetattribute
  rw [if_neg (by cases expr <;> exact Bool.false_ne_true)]
  unfold boundAndCalled
  rw [PySem.F.excAttr_ValueError.ga.bind (.ref e)]
  refine wpAny_bind (wpAny_pure ?_)
  refine wpAny_wider (A := A0h A.handled) (get_msg0 (s := { heap := hp, gens := g, drawn := dr, toks := tk + 1, os := os }) X he hd fun tk' => ?_) rfl (show A.depth ≤ 400 by omega) rfl rfl (show A.units ≤ 1000 by omega)
  dsimp only
  rw [handedOut_of (show handedIn (.str msg t) = true from rfl)]
  exact wpAny_pure (H tk')
end Mine
end

section
open PySem PySem.W PyProof.Rows PySem.Calls
set_option maxRecDepth 100000
namespace Mine
section
variable {prog : Program} {w : World} {A A₀ : Around} {E : Value → Shared → Prop} {s : Shared} {K : Frag} {C L : Addr} {h₀ base : Heap} {m mg mb : Str → Option Value} {news : List (Addr × Obj)} {p : Program} {loose : List Str} {mean : ExcName → Option Value} {Q : Value → Shared → Prop}
/-- a function with cells; its return may also be shown bare -/
theorem code_defO {env : Env} {outer : List Env} {R : Result → Shared → Prop} {name qual : Str} {params : Arguments} {body : List Stmt} {scope : Scope} {dV kV doc pm cdv ct oc : Value} {an od : Option Addr} {osl : Array (Option Value)} {f : Addr} {args : Args} {binds : List (Str × Value)}
    (B : Below A₀ base outer h₀) (F : Fr h₀ L s.heap m) (X₀ : K.In h₀) (N : News h₀ L s.heap news) (T : Top p loose mean mg mb h₀) (hA : A.frames = some (env :: outer)) (hf : env.frame = some L) (hke : env.scope.kind = .function)
    (ho : K.lookup f = some ⟨oc, od, .func (fnOf name qual params body scope dV kV doc pm an cdv ct), osl⟩) (hcd : codeIn K cdv qual = true) (hroom : A.depth < recursionLimit)
    (hbind : BindsTo s (fnOf name qual params body scope dV kV doc pm an cdv ct) args binds) (hkind : (binds.all fun y => scope.names.lookup y.1 == some .local || scope.names.lookup y.1 == some .cell) = true)
    (hnd : ((cellsFrom 0 scope.names []).map (·.1)).Nodup)
    (h : ∀ g L' h₁ tk cells, Fr h₀ L g m → Fr g L' h₁ (bindL (envOfC qual scope L' f cdv).kindOf binds fun _ => none) → News g L' h₁ (cells ++ news) →
      CellsAre (bindC (envOfC qual scope L' f cdv).kindOf binds fun _ => none) (cellsFrom (L' + 1) scope.names []) cells → Below A base (env :: outer) g → K.In g → Top p loose mean mg mb g → (∀ p ∈ news, p.1 < L') →
      wpAny (model prog w) (A.deeper (envOfC qual scope L' f cdv)) (execs body (envOfC qual scope L' f cdv))
        (fun fl s' => LeaveK h₀ L m g R (match fl with | .ret v => v | _ => .none) s' ∨ R (.ok (.ret (match fl with | .ret v => v | _ => .none))) s')
        (fun e s' => wpAny (model prog w) (A.deeper (envOfC qual scope L' f cdv)) (leaving (envOfC qual scope L' f cdv) e) (fun _ s'' => R (.error e) s'') (fun e' s'' => R (.error e') s'') s')
        { s with heap := h₁, toks := tk })
    (hco : scope.isCoroutine = false) (hgen : scope.isGenerator = false) (hk : scope.kind = .function) : codeAny (model prog w) A (.call (.ref f) args) R s := by
  obtain ⟨FG, BG, st, lv⟩ := groundX (R := R) B F N hA hf hke
  have hlim := T.nolimit
  refine codeAny_call_function hroom ((X₀.keeps F.keep) _ _ ho) rfl hco hgen rfl (codeRec_of (X₀.keeps F.keep) hcd) (hbind _ _ _ _ ?_)
  refine wpAny_newFunctionEnv_cells hk (kindsX hkind _) fun env' he s' x => ?_
  subst he
  refine ⟨(hlim.keeps F.keep).keeps x.toInCall.keep, codeAny_func ?_⟩
  obtain ⟨h₁, tk, rfl, _⟩ := x.done
  have hk₁ := x.toInCall.keep
  obtain ⟨cells, NC, Y⟩ := Cl.news (h₀ := s.heap) (Nat.le_refl _) fun n c hm => ⟨x.cell n c (lookup_of_mem_nodup (cellsFrom_names scope.names 0 (s.heap.objs.size + 1) [] [] rfl ▸ hnd) hm), x.above n c hm⟩
  refine wpAny_mono (h _ s.heap.objs.size h₁ tk cells FG ⟨x.toInCall.ns, fun b o e => hk₁ b o (of_hideAll _ e), Nat.le_of_eq (hideAll_size _ _)⟩ (fun p hp => ?_) Y BG (X₀.keeps st) (T.keeps st) (fun p hp => Heap.lt_size (N p hp).1)) (fun fl s' hl => hl.elim (fun hl => lv _ _ hl) fun z => z) fun _ _ y => y
  rcases List.mem_append.mp hp with hp | hp
  · refine ⟨(NC p hp).1, (NC p hp).2.1, ?_⟩
    cases q : (hideAll s.heap (news.map (·.1))).get? p.1 with
    | none => rfl
    | some o => have := of_hideAll _ q; rw [(NC p hp).2.2] at this; cases this
  · exact ⟨hk₁ _ _ (N p hp).1, Nat.ne_of_lt (Heap.lt_size (N p hp).1), hideAll_none _ (List.mem_map_of_mem hp)⟩
end
end Mine
end

section
open PySem PySem.W PyProof.Rows PySem.Calls
set_option maxRecDepth 100000
namespace Mine
section
variable {M : Model} {A : Around} {E : Value → Shared → Prop} {s : Shared} {env lenv : Env} {base h₀ g : Heap} {L L1 e d tp T : Addr} {m mt : Str → Option Value} {news : List (Addr × Obj)} {msg : Str} {t : Tok} {w : World}
/-- the exception in hand, behind the flight: e, its dict and the caller's namespace object lie in the ledger -/
structure Caught (w : World) (h₀ : Heap) (L L1 : Addr) (m mt : Str → Option Value) (news : List (Addr × Obj)) (h : Heap) (e d tp T : Addr) (msg : Str) (t : Tok) (kt n : Nat) (oL : Obj) : Prop where
  fr : Fr h₀ L1 h mt
  nw : News h₀ L1 h ((e, excObj d tp (.ref T)) :: (d, msgDict (hMsg w) kt n msg t) :: (L, oL) :: news)
  ns : ∀ h' : Heap, h'.get? L = some oL → h'.Ns L m
  fly : Fly h e d tp T .none
  tN : h₀.get? T = none
  tL : T ≠ L1
  off : ∀ p ∈ (e, excObj d tp (.ref T)) :: (d, msgDict (hMsg w) kt n msg t) :: (L, oL) :: news, p.1 ≠ T
theorem Caught.again {h h' : Heap} {kt n : Nat} {oL : Obj} (c : Caught w h₀ L L1 m mt news h e d tp T msg t kt n oL) (mv : Moved [] [T] h h') (fl : Fly h' e d tp T .none) : Caught w h₀ L L1 m mt news h' e d tp T msg t kt n oL := by
  refine ⟨⟨ns_slots c.fr.ns fun o q => mv.slots _ _ q ?_, fun b o q => mv.keep _ _ (c.fr.keep _ _ q) ?_ (fun z => nomatch z), c.fr.above⟩, fun p hp => ⟨mv.keep _ _ (c.nw p hp).1 ?_ (fun z => nomatch z), (c.nw p hp).2⟩, c.ns, fl, c.tN, c.tL, c.off⟩
  · intro z; exact c.tL (List.mem_singleton.mp z).symm
  · intro z; have := c.tN; rw [← List.mem_singleton.mp z, q] at this; cases this
  · intro z; exact c.off p hp (List.mem_singleton.mp z)
theorem Caught.flight {kt n : Nat} {oL : Obj} {Q : Unit → Shared → Prop} (c : Caught w h₀ L L1 m mt news s.heap e d tp T msg t kt n oL) (h : ∀ h', Caught w h₀ L L1 m mt news h' e d tp T msg t kt n oL → Q () { s with heap := h' }) : wpAny M A (setFlight (.ref e) none) Q E s :=
  seg_flight c.fly fun h' mv fl => h h' (c.again mv fl)
theorem seg_caught {Q : Unit → Shared → Prop} (hfr : A.frames = some (env :: [lenv])) (hf : env.frame = some L1) (hfl : lenv.frame = some L) (hk : env.scope.kind ≠ .module) (B : g.FunFrames base [lenv]) (hb : base.get? L1 = none)
    (xo : ExcOut w g L1 mt [lenv] news s.heap e d tp T msg t) (FG : Fr h₀ L g m) (ab : g.objs.size ≤ L1) (N : ∀ p ∈ news, p.1 ≠ L1 ∧ g.get? p.1 = none)
    (h : ∀ h5 T' oL kt n, Caught w h₀ L L1 m mt news h5 e d tp T' msg t kt n oL → Q () { s with heap := h5 }) :
    wpAny M A (noteFrame (.ref e) env) (fun _ s₂ => wpAny M A (setFlight (.ref e) none) Q E s₂) E s := by
  have hL : ∃ oL, g.get? L = some oL := by obtain ⟨o, _, _, ho, _⟩ := FG.ns; exact ⟨o, ho⟩
  obtain ⟨oL, hoL⟩ := hL
  obtain ⟨sl, hoL3⟩ := xo.slots _ _ hoL
  have fsl : [lenv].filterMap (·.frame) = [L] := by rw [List.filterMap_cons, hfl]; rfl
  have fs : (env :: [lenv]).filterMap (·.frame) = [L1, L] := by rw [List.filterMap_cons, hf]; show L1 :: [lenv].filterMap _ = _; rw [fsl]
  have FF : s.heap.FunFrames base (env :: [lenv]) := by
    obtain ⟨oN, esN, epN, hoN, hdN, _⟩ := xo.ns
    refine ⟨hk, ⟨L1, oN, hf, hb, hoN, fun vs q => ?_⟩, B.of_keeps fun b o q _ => ?_⟩
    · rw [q] at hdN; cases hdN
    · obtain ⟨sl, q'⟩ := xo.slots _ _ q; exact ⟨_, q', rfl⟩
  obtain ⟨kt, n, hd⟩ := xo.dict
  refine seg_note hfr FF hf xo.fly fun h4 T' m4 hT' f4 => ?_
  refine seg_flight f4 fun h5 m5 f5 => ?_
  have mv := m4.fresh m5 hT'
  rw [fs] at mv
  have eL2 : e ≠ L := fun z => by have := xo.eN; rw [z, hoL] at this; cases this
  have dL2 : d ≠ L := fun z => by have := xo.dN; rw [z, hoL] at this; cases this
  have tL2 : T ≠ L := fun z => by have := xo.tN; rw [z, hoL] at this; cases this
  have L1L : L1 ≠ L := fun z => absurd (Nat.lt_of_lt_of_le (Heap.lt_size hoL) ab) (by rw [z]; exact Nat.lt_irrefl _)
  have dT : d ≠ T := fun z => by
    obtain ⟨_, ⟨oT, ts, q1, q2, _⟩, _⟩ := xo.fly
    rw [← z, hd] at q1; cases q1; cases q2
  obtain ⟨sl5, hoL5⟩ := mv.slots L _ hoL3 (by simp [Ne.symm eL2, Ne.symm tL2])
  have h0L : h₀.get? L = none := Heap.get?_none_of_le FG.above
  have gno : ∀ {b : Addr}, g.get? b = none → h₀.get? b = none := fun q => none_keep FG.keep q
  have old : ∀ p ∈ news, s.heap.get? p.1 = some p.2 := xo.led
  have e5 : h5.get? d = some (msgDict (hMsg w) kt n msg t) := mv.keep _ _ hd (by simp [xo.de, dT]) (by simp [xo.dL, dL2])
  have new5 : ∀ p ∈ news, h5.get? p.1 = some p.2 := fun p hp => mv.keep _ _ (old p hp) (by simp [(xo.off p hp).1, (xo.off p hp).2.2]) (by
    have a := (N p hp).1
    have b : p.1 ≠ L := fun z => by have := (N p hp).2; rw [z, hoL] at this; cases this
    simp [a, b])
  refine h h5 T' { oL with slots := sl5 } kt n ⟨⟨?_, fun b o q => ?_, Nat.le_trans (Nat.le_of_lt (Nat.lt_of_le_of_lt FG.above (Heap.lt_size hoL))) ab⟩, ?_, fun h' q => ?_, f5, ?_, ?_, ?_⟩
  · exact ns_slots xo.ns fun o q => mv.slots L1 o q (by simp [Ne.symm xo.eL, Ne.symm xo.tL])
  · have q1 := FG.keep _ _ q
    have bL : b ≠ L := fun z => by rw [z, h0L] at q; cases q
    have bL1 : b ≠ L1 := fun z => absurd (Nat.lt_of_lt_of_le (Heap.lt_size q1) ab) (by rw [z]; exact Nat.lt_irrefl _)
    have be : b ≠ e := fun z => by rw [z, xo.eN] at q1; cases q1
    have bT : b ≠ T := fun z => by rw [z, xo.tN] at q1; cases q1
    exact mv.keep _ _ (xo.keep _ _ q1 (by rw [fsl]; simpa using bL)) (by simp [be, bT]) (by simp [bL, bL1])
  · intro p hp
    rcases List.mem_cons.mp hp with rfl | hp
    · exact ⟨f5.exc, xo.eL, gno xo.eN⟩
    · rcases List.mem_cons.mp hp with rfl | hp
      · exact ⟨e5, xo.dL, gno xo.dN⟩
      · rcases List.mem_cons.mp hp with rfl | hp
        · exact ⟨hoL5, Ne.symm L1L, h0L⟩
        · exact ⟨new5 p hp, (N p hp).1, gno (N p hp).2⟩
  · obtain ⟨o, es, ep, ho, hdd, r⟩ := FG.ns
    rw [hoL] at ho
    cases ho
    exact ⟨_, es, ep, q, hdd, r⟩
  · cases q : h₀.get? T' with
    | none => rfl
    | some o =>
      have q1 := FG.keep _ _ q
      obtain ⟨_, q2⟩ := xo.slots _ _ q1
      rw [q2] at hT'; cases hT'
  · intro z; obtain ⟨oN, _, _, hoN, _⟩ := xo.ns; rw [z, hoN] at hT'; cases hT'
  · intro p hp
    rcases List.mem_cons.mp hp with rfl | hp
    · intro z
      have := xo.fly.exc
      dsimp only at z
      rw [z, hT'] at this; cases this
    · rcases List.mem_cons.mp hp with rfl | hp
      · intro z; dsimp only at z; rw [z, hT'] at hd; cases hd
      · rcases List.mem_cons.mp hp with rfl | hp
        · intro z; dsimp only at z; rw [z, hT'] at hoL3; cases hoL3
        · intro z; have := old p hp; rw [z, hT'] at this; cases this
end
end Mine
end

section
open PySem PySem.W PyProof.Rows PySem.Calls
set_option maxRecDepth 100000
set_option maxHeartbeats 4000000
namespace Mine

local macro_rules | `(tactic| walk_at "eval ListComp") => `(tactic| (k_here; k_dflt (refine LCg.ListComp_U (F₀ := by k_asm) (by rfl) (by decide) (by rfl) (by decide) (by rfl) ?_)))
local macro_rules | `(tactic| walk_at "call builtin:sorted") => `(tactic| (k_here; k_dflt (refine sorted_dict rfl (by k_asm) (by k_asm) (by k_mem) (by k_asm) (by k_asm) (by assumption) ?_); intro D' vs' ns' c' h' tk' F' N' l1' hI' hp' hP'; (try dsimp only)))
theorem stC {p w A h L m env elt x sc cl F xv s} (q : LCg.CompSrc p w A h L m env elt x sc cl F xv s) : LCg.CompSrc p w A h L m env elt x sc cl F xv s := q
local macro_rules | `(tactic| walk_at "MyGo") => `(tactic| (repeat ((fail_if_success (with_reducible refine stC ?_)); (first | (k_unfold; (try dsimp only)) | walk1 | (dsimp only; walk1)))))
theorem pfold_small : ∀ {kss : List (List Int)} {st st' : PSt}, (∀ ks ∈ kss, ks.length ≤ 64) → (∀ p ∈ st.1, p.2.length ≤ 64) → pfold st kss = .ok st' → ∀ p ∈ st'.1, p.2.length ≤ 64
  | [], st, st', _, h, e => by cases e; exact h
  | ks :: r, st, st', hk, h, e => by
    unfold pfold at e
    have h9 := hk ks (.head _)
    unfold pstep at e
    by_cases h1 : isProf ks
    · rw [if_pos h1] at e
      by_cases h2 : oddP ks
      · rw [if_pos h2] at e; cases e
      · rw [if_neg h2] at e
        by_cases h3 : unfitP st ks
        · rw [if_pos h3] at e; cases e
        · rw [if_neg h3] at e
          refine pfold_small (fun x hx => hk x (.tail _ hx)) ?_ e
          intro p hp
          rcases List.mem_append.mp hp with hp | hp
          · exact h p hp
          · rw [List.mem_singleton.mp hp]
            show (ks.drop 14).length ≤ 64
            rw [List.length_drop]; omega
    · rw [if_neg h1] at e
      exact pfold_small (fun x hx => hk x (.tail _ hx)) h e
theorem lookE_small {es : List (Int × List Int)} (h : ∀ p ∈ es, p.2.length ≤ 64) (k : Int) : (lookE es k).length ≤ 64 := by
  unfold lookE
  cases e : es.find? fun p => p.1 = k with
  | none => simp
  | some p => exact h p (List.mem_of_find?_eq_some e)
theorem BysAre.small {vs : List Value} {kss : List (List Int)} (h : BysAre vs kss) : ∀ ks ∈ kss, ks.length ≤ 64 := by
  induction h with
  | nil => intro _ h; cases h
  | cons _ h2 _ ih =>
    intro x hx
    rcases List.mem_cons.mp hx with rfl | hx
    · exact h2
    · exact ih x hx
theorem ints_at {vs : List Value} {ns : List Int} (h : IntsAre vs ns) : ∀ {i : Nat} {v : Value}, vs[i]? = some v → ∃ n t, v = .int n t ∧ ns[i]? = some n := by
  induction h with
  | nil => intro i v e; simp at e
  | cons n t _ ih =>
    intro i v e
    cases i with
    | zero => simp at e; exact ⟨_, _, e.symm, rfl⟩
    | succ i => simp at e; simpa using ih e
theorem ints_dat {news : List (Addr × Obj)} {vs : List Value} {ns : List Int} (h : IntsAre vs ns) : DatAll news vs (ns.map Dat.int) := by
  induction h with
  | nil => exact .nil
  | cons n t _ ih => exact .cons (.int n t) ih
theorem off_lt {a I C D : Addr} (h1 : I < a) (h2 : C < a) (h3 : D < a) : (@Ne Nat a I) ∧ (@Ne Nat a C) ∧ (@Ne Nat a D) := ⟨Nat.ne_of_gt h1, Nat.ne_of_gt h2, Nat.ne_of_gt h3⟩
theorem many_dat {news : List (Addr × Obj)} {mv : Value} {x : Option Int} (h : ManyIs mv x) : DatIn news mv (manyD x) := by
  cases h with
  | none => exact .none
  | int k t => exact .int k t
theorem ent_next {es : List (Int × List Int)} {ns : List Int} {i : Nat} {k : Int} (h : ns[i]? = some k) : (ns.take (i + 1)).map (entD es) = (ns.take i).map (entD es) ++ [entD es k] := by
  rw [List.take_add_one, h, List.map_append]; rfl
theorem told_out {h₀ h : Heap} {L : Addr} {T pl : Addr} {mv : Value} {x : Str} {t : Tok} {n k : Nat} {ys : List Value} {ds : List Dat} {dm : Dat} {new NB NB' : List (Addr × Obj)}
    (N : News h₀ L h ((T, ({ cls := .type "tuple", data := .seq #[.ref pl, mv, .str x t] n } : Obj)) :: (pl, listOf ys.toArray k) :: (new ++ NB))) (hy : DatAll new ys ds) (hm : DatIn [] mv dm) (hs : ∀ p ∈ NB', p ∈ NB) :
    ∃ new', News h₀ L h (new' ++ NB') ∧ DatIn new' (.ref T) (.tuple [.list ds, dm, .str x]) := by
  refine ⟨(T, ({ cls := .type "tuple", data := .seq #[.ref pl, mv, .str x t] n } : Obj)) :: (pl, listOf ys.toArray k) :: new, KStt.news_of N ?_, DatIn.tuple (vs := [.ref pl, mv, .str x t]) (.head _) (.cons (.list (.tail _ (.head _)) (hy.mono fun p hp => .tail _ (.tail _ hp))) (.cons (hm.mono (by intro p hp; cases hp)) (.cons (.str _ _) .nil)))⟩
  intro p hp
  rcases List.mem_cons.mp hp with rfl | hp
  · exact .head _
  · rcases List.mem_cons.mp hp with rfl | hp
    · exact .tail _ (.head _)
    · rcases List.mem_append.mp hp with hp | hp
      · exact .tail _ (.tail _ (List.mem_append.mpr (.inl hp)))
      · exact .tail _ (.tail _ (List.mem_append.mpr (.inr (hs p hp))))
theorem sz60 {vs : List Value} (h : vs.length ≤ 60) : vs.toArray.size ≤ sizeLine := by rw [List.size_toArray, sizeLine_eq]; omega
theorem sz64 {vs : List Value} (h : vs.length < 64) : vs.toArray.size ≤ sizeLine := by rw [List.size_toArray, sizeLine_eq]; omega
theorem le12 {ns : List Int} (h : ns.length ≤ 50) : ([73, 67, 67, 95, 80, 82, 79, 70, 73, 76, 69, 0] ++ ns : List Int).length ≤ 64 := by rw [List.length_append]; show 12 + ns.length ≤ 64; omega
theorem told_ok {w : World} {mean : ExcName → Option Value} {mg mb : Str → Option Value} {dp un : Nat} {gd : Option (List Code)} {cn : Str} {cs : Scope} {a : Addr} {ccd : Value} {cl : List (Str × Addr)} {A₀ : Around} {base h₀ : Heap} {L : Addr} {m : Str → Option Value} {s : Shared} {Q E : Value → Shared → Prop}
   {rest : List (Addr × Obj)} {rl : Addr} {rvs : List Value} {n : Nat} {rws : List Row}
   (B : Below A₀ base [] h₀) (F : Fr h₀ L s.heap m) (X : (Mine.hx.heap_39 w.params).In h₀) (N : News h₀ L s.heap ((rl, listOf rvs.toArray n) :: rest))
   (T : Top Mine.hx.view_39 (looseW Mine.hx.view_39 []) mean mg mb h₀) (hk : cs.kind = .function)
   (hd : dp ≤ 380) (hun : un ≤ 800) (hlen : rvs.length ≤ 60) (hrw : RowsAre rest rvs rws)
   (hret : ∀ (tup : Addr) (new : List (Addr × Obj)) (dat : Dat) (h' : Heap) (tk' : Nat), ToldIs (rws.map payOf) dat → Fr h₀ L h' m → News h₀ L h' (new ++ (rl, listOf rvs.toArray n) :: rest) → DatIn new (.ref tup) dat → Q (.ref tup) { s with heap := h', toks := tk' }) :
   wpAny (model PySem.Challenge.rw_xm0799_01.row.prog w) (ktrTop dp un gd cn cs L a ccd cl []) (call (.ref 86) [.ref rl]) Q E s := by
  have hdr : dp + 3 < recursionLimit := by simp only [recursionLimit]; omega
  revert X; k_fill; intro X
  refine wpAny_call ?_
  k_dflt (refine' code_defO ?k1 ?k2 ?k3 ?k4 ?k5 ?kA ?kF ?kK ?k6 ?k7 ?k8 ?k9 ?kB ?kD ?_ ?c2 ?c3 ?c4; (case kA => exact rfl); (case kF => exact rfl); (case kK => assumption); (case k1 => k_asm); (case k2 => k_asm); (case k3 => k_asm); (case k4 => k_asm); (case k5 => k_asm); (case k6 => k_is); (case k7 => k_is); (case k8 => ktr_room); (case k9 => exact BindsTo.of_eq rfl); (case kB => exact rfl); (case kD => decide +kernel); (case c2 => exact rfl); (case c3 => exact rfl); (case c4 => exact rfl); k_whole)
  intro g1 L1 h1 tk1 cells1 FG1 F1 N1 Y1 B1 X1 T1 l1
  k_cells Y1
  simp only [List.cons_append, List.nil_append] at N1
  (try dsimp only)
  walk1
  refine wpAny_Try_except ?_
  iterate 6 walk1
  k_dflt (refine LCg.ListComp_U (F₀ := by k_asm) (by rfl) (by decide) (by rfl) (by decide) (by rfl) ?_)
  walk1
  (rename Obj => oc)
  have hz : rvs.toArray.size ≤ sizeLine := sz60 hlen
  refine LCg.CompSrc.ledger rfl F1 N1 (.tail _ (.head _)) hz (fun g => comp_rest (fun i ys nw => nw = (L1 + 1, oc) :: (rl, listOf rvs.toArray n) :: rest ∧ BysAre ys ((rws.take i).map payOf)) ⟨rfl, .nil⟩ ?turn ?fin)
  case turn =>
    rintro i v ys nw I oI C oC D m₂ hh tk E' hi hP ⟨rfl, hys⟩ hC hx F2 N2 off ne
    obtain ⟨r, l, t, k, k', vs, part, ns, rfl, hrow, m1, m2, hI, hIn, hln⟩ := hrw.get (by simpa using hP)
    iterate 8 (first | walk1 | (dsimp only; walk1))
    have N3 : News g1 L1 hh ((r, rowTup part t l k) :: (l, listOf vs.toArray k') :: (I, oI) :: (C, oC) :: (D, LCg.lst ys) :: (L1 + 1, oc) :: (rl, listOf rvs.toArray n) :: rest) := by
      intro p hp
      rcases List.mem_cons.mp hp with rfl | hp
      · exact N2 _ (by simp [m1])
      · rcases List.mem_cons.mp hp with rfl | hp
        · exact N2 _ (by simp [m2])
        · exact N2 p hp
    clear N2
    cases part
    · k_dflt (refine payload_other B1 (by assumption) (by k_in) N3 (by k_asm) rfl ?hd hI hIn (by omega) ?hr)
      case hd => ktr_room
      case hr =>
        intro t9 h' tk' F9 N9
        k_unfold
        refine LCg.CompEnd.intro F9 N9 _ (fun p hp => .tail _ (.tail _ hp)) off (.inr ⟨_, .tail _ (.head _), rfl, _, rfl⟩) ⟨rfl, ?_⟩
        exact bys_next (part := false) hys hrow hIn (Nat.le_trans hln (by decide))
    · k_dflt (refine payload_part B1 (by assumption) (by k_in) N3 (by k_asm) rfl ?hd hI hIn (by omega) ?hr)
      case hd => ktr_room
      case hr =>
        intro t9 h' tk' F9 N9
        k_unfold
        refine LCg.CompEnd.intro F9 N9 _ (fun p hp => .tail _ (.tail _ hp)) off (.inr ⟨_, .tail _ (.head _), rfl, _, rfl⟩) ⟨rfl, ?_⟩
        exact bys_next (part := true) hys hrow (in_name hIn) (le12 hln)
  case fin =>
    rintro ys nw ⟨rfl, hys⟩
    unfold LCg.FinE
    intro pl h2 tk2 F2 N2 o1
    (try dsimp only)
    k_steps
    rw [List.size_toArray, hrw.length, List.take_length] at hys
    have hyl : ys.length ≤ 60 := by rw [hys.length, List.length_map, ← hrw.length]; exact hlen
    k_dflt (refine parts_ok B1 F2 (by k_in) N2 (by k_asm) rfl ?hd ?hu hys (Nat.le_trans hyl (by decide)) ?hret ?hexc)
    case hd => (show dp + 1 ≤ 390; exact Nat.le_trans (Nat.succ_le_succ hd) (by decide))
    case hu => (show un + 3 ≤ 900; exact Nat.le_trans (Nat.add_le_add_right hun 3) (by decide))
    case hret =>
      intro tup d o kvs st mv h3 tk3 hpf hdo hkv hmv hle hlo F3 N3
      (try dsimp only)
      k_steps
      (rename Obj.data _ = Data.cell _ => d1)
      (rename News _ _ _ _ => N3)
      (rename Fr _ _ _ _ => F3)
      have hd1 : d ≠ L1 + 1 := Mine.News.apart N3 (x := o) (y := oc) (.tail _ (.head _)) (.tail _ (.tail _ (.tail _ (.head _)))) (by
        obtain ⟨es', ep', _, q, _⟩ := hdo
        rw [q, d1]; intro z; cases z)
      have N4 := KStt.news_of (b := [] ++ (L1 + 1, oc) :: (d, o) :: (rl, listOf rvs.toArray n) :: rest) N3 (by
        intro p hp
        rcases List.mem_cons.mp hp with rfl | hp
        · exact (.tail _ (.tail _ (.tail _ (.head _))))
        · rcases List.mem_cons.mp hp with rfl | hp
          · exact (.tail _ (.head _))
          · exact (.tail _ (.tail _ (.tail _ (.tail _ hp)))))
      have h2 : ∀ p ∈ (d, o) :: (rl, listOf rvs.toArray n) :: rest, p.1 ≠ L1 + 1 := by
        intro p hp
        rcases List.mem_cons.mp hp with rfl | hp
        · exact hd1
        · exact Nat.ne_of_lt (Nat.lt_succ_of_lt (l1 p hp))
      have hk64 : kvs.length < 64 := Nat.lt_of_le_of_lt (Nat.le_trans (Nat.le_of_eq hkv.length) (Nat.le_trans hle hyl)) (by decide)
      k_dflt (refine stCN F3 N4 (by rfl) d1 (fun _ h => nomatch h) h2 (fun h4 oc4 F4 N4' d4 => ?_))
      simp only [List.nil_append] at N4'
      clear N3 F3 N4
      walk_at "MyGo"
      rename_i D5 vs5 ns5 c5 h5 tk5 F5 N5 l5 hI5 hp5 hP5
      have hsm : ∀ p ∈ st.1, p.2.length ≤ 64 := pfold_small hys.small (by intro p hp; cases hp) hpf
      have hv5 : vs5.length < 64 := by rw [hI5.length, hp5.length_eq, List.length_map]; exact hk64
      have hz5 : vs5.toArray.size ≤ sizeLine := sz64 hv5
      refine LCg.CompSrc.ledger rfl F5 N5 (.head _) hz5 (fun g => comp_rest (fun i ys nw => ∃ new, nw = new ++ (D5, listOf vs5.toArray c5) :: (L1 + 1, oc4) :: (d, o) :: (rl, listOf rvs.toArray n) :: rest ∧ DatAll new ys ((ns5.take i).map (entD st.1))) ⟨[], rfl, .nil⟩ ?turn ?fin)
      case turn =>
        rintro i v ys9 nw I oI C oC D m₂ hh tk E' hi hP ⟨new, rfl, hys9⟩ hC hx F2 N2 off ne
        obtain ⟨k, t, rfl, hk9⟩ := ints_at hI5 (by simpa using hP)
        have N3 := KStt.news_of (b := (L1 + 1, oc4) :: (d, o) :: (I, oI) :: (C, oC) :: (D, LCg.lst ys9) :: (new ++ (D5, listOf vs5.toArray c5) :: (L1 + 1, oc4) :: (d, o) :: (rl, listOf rvs.toArray n) :: rest)) N2 (by
          intro p hp
          rcases List.mem_cons.mp hp with rfl | hp
          · simp
          · rcases List.mem_cons.mp hp with rfl | hp
            · simp
            · exact hp)
        clear N2
        k_steps
        have hkm : k ∈ kvs.map (·.1) := hp5.mem_iff.mp (List.mem_of_getElem? hk9)
        obtain ⟨b9, t9, hl9, hb9⟩ := value_look hkv hkm
        k_dflt (refine kda_item (d := d) (o := o) (knd := PySem.intKind PySem.Challenge.rw_xm0799_01.row.prog w) (kvs := kvs) (k := k) (N := by k_asm) (.tail _ (.head _)) hdo (intKind_is _ _ _ _) hl9 ?_)
        k_steps
        k_dflt (refine list_bytes_K rfl (by k_asm) (by k_asm) hb9 (Nat.le_trans (lookE_small hsm k) (by decide)) ?_)
        intro D8 us8 c8 h8 tk8 F8 N8 l8 hI8
        (try dsimp only)
        k_steps
        (try dsimp only)
        (rename News _ _ _ _ => N9)
        (rename Fr _ _ _ _ => F9)
        (rename _ ∧ _ => l9)
        refine LCg.CompEnd.intro F9 N9 ((_, ({ cls := .type "tuple", data := .seq #[.int k t, .ref D8] } : Obj)) :: (D8, listOf us8.toArray c8) :: (new ++ _)) ?sub ⟨off_lt l9.2.2.2.1 l9.2.2.2.2.1 l9.2.2.2.2.2.1, off_lt (l8 _ (.tail _ (.tail _ (.head _)))) (l8 _ (.tail _ (.tail _ (.tail _ (.head _))))) (l8 _ (.tail _ (.tail _ (.tail _ (.tail _ (.head _)))))), off⟩ (.inr ⟨listOf vs5.toArray c5, ?mm, rfl, c5, rfl⟩) ⟨_ :: _ :: new, rfl, ?_⟩
        case sub =>
          intro p hp
          rcases List.mem_cons.mp hp with rfl | hp
          · simp
          · rcases List.mem_cons.mp hp with rfl | hp
            · simp
            · rcases List.mem_cons.mp hp with rfl | hp
              · simp
              · rcases List.mem_cons.mp hp with rfl | hp
                · exact .head _
                · rcases List.mem_cons.mp hp with rfl | hp
                  · exact .tail _ (.head _)
                  · exact .tail _ (.tail _ (.tail _ (.tail _ (.tail _ (.tail _ (.tail _ hp))))))
        case mm => exact .tail _ (.tail _ (List.mem_append.mpr (.inr (.head _))))
        rw [ent_next hk9]
        refine DatAll.append (hys9.mono fun p hp => .tail _ (.tail _ hp)) (DatAll.one ?_)
        exact DatIn.tuple (vs := [_, _]) (.head _) (.cons (.int k t) (.cons (.list (.tail _ (.head _)) (ints_dat hI8)) .nil))
      case fin =>
        rintro ys9 nw ⟨new, rfl, hys9⟩
        unfold LCg.FinE
        intro pl9 h9 tk9 F9 N9 o9
        (try dsimp only)
        k_steps
        refine .inl ?_
        k_steps
        (rename News h₀ _ _ _ => N6)
        (rename Fr h₀ _ _ _ => F6)
        rw [List.size_toArray, hI5.length, List.take_length] at hys9
        obtain ⟨new6, N7, D7⟩ := told_out (NB' := (rl, listOf rvs.toArray n) :: rest) N6 hys9 (many_dat hmv) (fun p hp => .tail _ (.tail _ (.tail _ hp)))
        refine hret _ new6 _ _ _ ?hT F6 N7 D7
        unfold ToldIs
        rw [hpf]
        exact ⟨ns5, by rw [← hkv.keys]; exact hp5, hP5, rfl⟩
    case hexc =>
      intro bad e d tp T9 t9 h3 tk3 hpf xo
      refine seg_caught (lenv := envX cn cs L a ccd cl) (base := base) rfl rfl rfl (by intro z; cases z) B1.frames ?hb xo FG1 F2.above (fun p hp => (N2 p hp).2) ?_
      case hb =>
        cases q : base.get? L1 with
        | none => rfl
        | some o => exact absurd (Nat.lt_of_lt_of_le (Heap.lt_size (B1.stays L1 o q)) F2.above) (Nat.lt_irrefl _)
      intro h5 T5 oL kt n5 C5
      (try dsimp only)
      refine wpAny_handleBy_cons (codeAny_handlers_test ?_) (by intro q; cases q)
      have F5 := C5.fr
      have N5 := C5.nw
      k_steps
      have X5 := X.keeps F5.keep
      have hC : h5.get? 44 = some (excClassObj (Str.ofString "SegmentError") (Str.ofString "SegmentError") 44 43 [.ref 31] [.ref 31, .type "Exception", .type "BaseException", .type "object"] true [] [] false none none (some (.ref 35)) none (some (.str (Str.ofString "SegmentError") 218)) (some (.str (Str.ofString "SegmentError") 226)) (some (.bool true)) "Exception.__new__") := X5 44 _ rfl
      k_dflt (refine wpAny_excMatches_sub_self hC (N5 _ (.head _)).1 rfl (by decide) ?_)
      (try dsimp only)
      refine codeAny_handlers_suite_as ?_
      refine C5.flight fun h6 C6 => ?_
      clear hC X5 N5 F5
      have F6 := C6.fr
      have N6 := C6.nw
      (try dsimp only)
      refine wpAny_storeName_local (by rfl) F6.ns fun h7 n7 sb7 => ?_
      have F7 := F6.set n7 sb7
      have N7 : News h₀ L1 h7 _ := fun p hp => ⟨(sb7.2 _ (N6 p hp).2.1).trans (N6 p hp).1, (N6 p hp).2⟩
      (try dsimp only)
      k_steps
      (rename News _ _ _ _ => N8)
      (rename Fr _ _ _ _ => F8)
      k_dflt (refine get_msg (Nat.lt_of_le_of_lt (Nat.succ_le_succ hd) (by decide)) (Nat.lt_of_le_of_lt (Nat.add_le_add_right hun 3) (by decide)) (X.keeps F8.keep) (N8 _ (.tail _ (.head _))).1 (N8 _ (.tail _ (.tail _ (.head _)))).1 (fun tk9 => ?_))
      (try dsimp only)
      k_steps
      (rename News _ _ _ _ => N9)
      (rename Fr _ _ _ _ => F9)
      (rename _ ∧ _ => lT)
      revert lT
      (rename _ ∧ _ => lD)
      intro lT
      refine wpAny_nameGoes (by rfl) F9.ns (by rfl) (fun h10 m10 n10 sb10 => ?_)
      refine .inr ?_
      have F10 := F9.set n10 sb10
      have N10 : ∀ p : Addr × Obj, p ∈ _ → h10.get? p.1 = some p.2 ∧ h₀.get? p.1 = none := fun p hp => ⟨(sb10.2 _ (N9 p hp).2.1).trans (N9 p hp).1, (N9 p hp).2.2⟩
      have F11 : Fr h₀ L h10 m := ⟨C5.ns h10 (N10 _ (.tail _ (.tail _ (.tail _ (.tail _ (.head _)))))).1, F10.keep, F.above⟩
      obtain ⟨new6, N12, D12⟩ := told_out (new := []) (ys := []) (k := 0) (h₀ := h₀) (h := h10) (L := L) (NB := (rl, listOf rvs.toArray n) :: rest) (NB' := (rl, listOf rvs.toArray n) :: rest) (fun p hp => by
        rcases List.mem_cons.mp hp with rfl | hp
        · exact ⟨(N10 _ (.head _)).1, Nat.ne_of_gt lT.2.2.2.1, (N10 _ (.head _)).2⟩
        · rcases List.mem_cons.mp hp with rfl | hp
          · exact ⟨(N10 _ (.tail _ (.head _))).1, Nat.ne_of_gt lD.2.2.1, (N10 _ (.tail _ (.head _))).2⟩
          · have q := N10 p (.tail _ (.tail _ (.tail _ (.tail _ (.tail _ (.tail _ (.tail _ hp)))))))
            exact ⟨q.1, (N p hp).2.1, q.2⟩) .nil .none (fun p hp => hp)
      refine hret _ new6 _ _ _ ?hT9 F11 N12 D12
      unfold ToldIs
      rw [hpf]
      rfl
end Mine
end

section
open PySem PySem.W PyProof.Rows PySem.Calls PyProof.V PySem.Spec
set_option maxRecDepth 100000
namespace Mine
section
variable {prog : Program} {w : World} {A : Around} {E : Value → Shared → Prop} {s : Shared} {h₀ : Heap} {L : Addr} {news n₁ n₂ : List (Addr × Obj)} {va vb : Value} {da db : Dat} {b : Bool} {Q : Value → Shared → Prop}
theorem dat_shaped {d : Dat} (h : kqdOk 8 d = true) : SeqAt.shaped (kqdP d) = true := by
  have la := kqd_lay 8 d h
  unfold SeqAt.shaped; rw [la.1, Bool.true_and]; exact decide_eq_true (Nat.le_trans la.2 (by decide))
theorem dat_eqv (ha : kqdOk 8 da = true) (hb : kqdOk 8 db = true) (hq : da = db ↔ b = true) : PyData.eqv (kqdP da) (kqdP db) = b := by
  have q := kqd_eqv 8 da db 8 ha hb
  cases b with
  | true => exact q.mpr (hq.mpr rfl)
  | false => exact Bool.eq_false_iff.mpr fun x => by have := hq.mp (q.mp x); cases this
theorem cmp_ne (N : News h₀ L s.heap news) (Da : DatIn n₁ va da) (sa : ∀ p ∈ n₁, p ∈ news) (Db : DatIn n₂ vb db) (sb : ∀ p ∈ n₂, p ∈ news) (ha : kqdOk 8 da = true) (hb : kqdOk 8 db = true) (hu : A.units + 64 < cLine) (hq : da = db ↔ b = true) (h : Q (.bool (!b)) s) :
    wpAny (model prog w) A (compareOp .NotEq va vb) Q E s := by
  obtain ⟨as, ra⟩ := kqd_in N 8 (Da.mono sa) ha
  obtain ⟨bs, rb⟩ := kqd_in N 8 (Db.mono sb) hb
  exact ne_dataH ra rb (dat_shaped ha) (dat_shaped hb) hu (by rw [dat_eqv ha hb hq]; exact h)
theorem cmp_eq (N : News h₀ L s.heap news) (Da : DatIn n₁ va da) (sa : ∀ p ∈ n₁, p ∈ news) (Db : DatIn n₂ vb db) (sb : ∀ p ∈ n₂, p ∈ news) (ha : kqdOk 8 da = true) (hb : kqdOk 8 db = true) (hu : A.units + 64 < cLine) (hq : da = db ↔ b = true) (h : Q (.bool b) s) :
    wpAny (model prog w) A (compareOp .Eq va vb) Q E s := by
  obtain ⟨as, ra⟩ := kqd_in N 8 (Da.mono sa) ha
  obtain ⟨bs, rb⟩ := kqd_in N 8 (Db.mono sb) hb
  exact eq_dataH ra rb (dat_shaped ha) (dat_shaped hb) hu (by rw [dat_eqv ha hb hq]; exact h)
theorem lit_dat {T pl : Addr} {mv : Value} {x : Str} {t : Tok} {n k : Nat} {ys : List Value} {ds : List Dat} {dm : Dat} {n₂ : List (Addr × Obj)} (hT : (T, ({ cls := .type "tuple", data := .seq #[.ref pl, mv, .str x t] n } : Obj)) ∈ news) (hp : (pl, listOf ys.toArray k) ∈ news)
    (hy : DatAll n₂ ys ds) (sy : ∀ p ∈ n₂, p ∈ news) (hm : DatIn [] mv dm) : DatIn news (.ref T) (.tuple [.list ds, dm, .str x]) :=
  DatIn.tuple (vs := [.ref pl, mv, .str x t]) hT (.cons (.list hp (hy.mono sy)) (.cons (hm.mono (by intro p hp; cases hp)) (.cons (.str _ _) .nil)))
theorem cmp_ne_lit {T pl : Addr} {mv : Value} {x : Str} {t : Tok} {n k : Nat} {ys : List Value} {ds : List Dat} {dm : Dat} {n₂ : List (Addr × Obj)} (N : News h₀ L s.heap news) (hT : (T, ({ cls := .type "tuple", data := .seq #[.ref pl, mv, .str x t] n } : Obj)) ∈ news) (hp : (pl, listOf ys.toArray k) ∈ news)
    (Da : DatIn n₁ va (.tuple [.list ds, dm, .str x])) (sa : ∀ p ∈ n₁, p ∈ news) (hy : DatAll n₂ ys ds) (sy : ∀ p ∈ n₂, p ∈ news) (hm : DatIn [] mv dm) (ok : kqdOk 8 (.tuple [.list ds, dm, .str x]) = true) (hu : A.units + 64 < cLine) (h : Q (.bool false) s) :
    wpAny (model prog w) A (compareOp .NotEq va (.ref T)) Q E s :=
  cmp_ne N Da sa (lit_dat hT hp hy sy hm) (fun _ h => h) ok ok hu (b := true) (iff_of_true rfl rfl) h
theorem cmp_eq_lit {T pl : Addr} {mv : Value} {x : Str} {t : Tok} {n k : Nat} {ys : List Value} {ds : List Dat} {dm : Dat} {n₂ : List (Addr × Obj)} (N : News h₀ L s.heap news) (hT : (T, ({ cls := .type "tuple", data := .seq #[.ref pl, mv, .str x t] n } : Obj)) ∈ news) (hp : (pl, listOf ys.toArray k) ∈ news)
    (Da : DatIn n₁ va (.tuple [.list ds, dm, .str x])) (sa : ∀ p ∈ n₁, p ∈ news) (hy : DatAll n₂ ys ds) (sy : ∀ p ∈ n₂, p ∈ news) (hm : DatIn [] mv dm) (ok : kqdOk 8 (.tuple [.list ds, dm, .str x]) = true) (hu : A.units + 64 < cLine) (h : Q (.bool true) s) :
    wpAny (model prog w) A (compareOp .Eq va (.ref T)) Q E s :=
  cmp_eq N Da sa (lit_dat hT hp hy sy hm) (fun _ h => h) ok ok hu (b := true) (iff_of_true rfl rfl) h
end
end Mine
end

section
open PySem PySem.W PyProof.Rows PySem.Calls
set_option maxRecDepth 100000
namespace Mine
def partOf1 : Row → Option (Int × List Int)
  | (true, n :: _ :: o) => some (n, o)
  | _ => none
def partsOf (rws : List Row) : List (Int × List Int) := rws.filterMap partOf1
def GoodRow (many : Int) (r : Row) : Prop := (∃ n o, r = (true, n :: many :: o) ∧ 1 ≤ n ∧ n ≤ many) ∨ (∃ o, r = (false, o) ∧ ¬ isProf o)
theorem pay_part {ns : List Int} : isProf (payOf (true, ns)) := rfl
theorem pay_drop {n k : Int} {o : List Int} : (payOf (true, n :: k :: o)).drop 14 = o := rfl
theorem pay_12 {n k : Int} {o : List Int} : (payOf (true, n :: k :: o)).getD 12 0 = n := rfl
theorem pay_13 {n k : Int} {o : List Int} : (payOf (true, n :: k :: o)).getD 13 0 = k := rfl
theorem pay_len {n k : Int} {o : List Int} : (payOf (true, n :: k :: o)).length = o.length + 14 := by
  show ([73, 67, 67, 95, 80, 82, 79, 70, 73, 76, 69, 0] ++ n :: k :: o : List Int).length = _
  simp
theorem not_odd {n k : Int} {o : List Int} (h : 1 ≤ n) (h2 : n ≤ k) : ¬ oddP (payOf (true, n :: k :: o)) := by
  unfold oddP
  rw [pay_12, pay_13, pay_len]
  omega
theorem pfold_good {many : Int} : ∀ {rws : List Row} {es : List (Int × List Int)} {mo : Option Int}, (∀ r ∈ rws, GoodRow many r) → (es.map (·.1) ++ (partsOf rws).map (·.1)).Nodup → (mo = none ∨ mo = some many) →
    pfold (es, mo) (rws.map payOf) = .ok (es ++ partsOf rws, if partsOf rws = [] then mo else some many)
  | [], es, mo, _, _, _ => by simp [pfold, partsOf]
  | r :: rws, es, mo, hg, hn, hm => by
    have hg' := fun x hx => hg x (.tail _ hx)
    rcases hg r (.head _) with ⟨n, o, rfl, h1, h2⟩ | ⟨o, rfl, hp⟩
    · have e : partsOf ((true, n :: many :: o) :: rws) = (n, o) :: partsOf rws := rfl
      rw [e] at hn ⊢
      rw [List.map_cons, pfold]
      have hs : pstep (es, mo) (payOf (true, n :: many :: o)) = .ok (es ++ [(n, o)], some many) := by
        rw [pstep_ok pay_part (not_odd h1 h2), pay_12, pay_13, pay_drop]
        unfold unfitP
        rw [pay_12, pay_13]
        rintro (⟨q1, q2⟩ | q)
        · rcases hm with hm | hm
          · exact q1 hm
          · exact q2 hm
        · have := (List.nodup_append.mp hn).2.2 n q n (by simp)
          exact this rfl
      rw [hs]
      dsimp only
      rw [pfold_good hg' (by simpa using hn) (.inr rfl)]
      simp
    · have e : partsOf ((false, o) :: rws) = partsOf rws := rfl
      rw [e] at hn ⊢
      rw [List.map_cons, pfold, pstep_other (show ¬ isProf (payOf (false, o)) from hp)]
      exact pfold_good hg' hn hm
def dueD (p : Int × List Int) : Dat := .tuple [.int p.1, .list (p.2.map Dat.int)]
structure Due (many k : Int) (rws : List Row) (due : List (Int × List Int)) : Prop where
  good : ∀ r ∈ rws, GoodRow many r
  perm : (partsOf rws).Perm due
  sorted : due.Pairwise (fun x y => x.1 < y.1)
  bound : ∀ p ∈ due, 1 ≤ p.1 ∧ p.1 ≤ k
section
variable {many k : Int} {rws : List Row} {due : List (Int × List Int)} {dat : Dat}
theorem Due.nodupD (h : Due many k rws due) : (due.map (·.1)).Nodup := by
  rw [List.nodup_iff_pairwise_ne, List.pairwise_map]
  exact h.sorted.imp fun q e => by omega
theorem Due.nodup (h : Due many k rws due) : ((partsOf rws).map (·.1)).Nodup := ((h.perm.map (·.1)).nodup_iff).mpr h.nodupD
theorem Due.fold (h : Due many k rws due) : pfold ([], none) (rws.map payOf) = .ok (partsOf rws, if partsOf rws = [] then none else some many) := by
  have := pfold_good (es := []) (mo := none) h.good (by simpa using h.nodup) (.inl rfl)
  simpa using this
theorem look_mem : ∀ {es : List (Int × List Int)} {n : Int} {o : List Int}, (es.map (·.1)).Nodup → (n, o) ∈ es → lookE es n = o
  | p :: es, n, o, hn, hm => by
    unfold lookE
    rw [List.find?_cons]
    rcases List.mem_cons.mp hm with rfl | hm
    · simp
    · have hn' := List.nodup_cons.mp (by simpa using hn : (p.1 :: es.map (·.1)).Nodup)
      have hne : p.1 ≠ n := fun e => hn'.1 (e ▸ List.mem_map.mpr ⟨_, hm, rfl⟩)
      simp only [decide_eq_false hne]
      exact look_mem hn'.2 hm
theorem sorted_same : ∀ {a b : List Int}, a.Perm b → a.Pairwise (fun x y => x ≤ y) → b.Pairwise (fun x y => x < y) → a = b := fun p h1 h2 =>
  p.eq_of_pairwise (fun _ _ _ _ h h' => Int.le_antisymm h h') h1 (h2.imp fun h => Int.le_of_lt h)
theorem told_due (h : Due many k rws due) (ht : ToldIs (rws.map payOf) dat) : dat = .tuple [.list (due.map dueD), manyD (if due = [] then none else some many), .str (Str.ofString "")] := by
  unfold ToldIs at ht
  rw [h.fold] at ht
  obtain ⟨ns, hp, hs, rfl⟩ := ht
  dsimp only at hp ⊢
  have e1 : ns = due.map (·.1) := sorted_same (hp.trans (h.perm.map (·.1))) hs (List.pairwise_map.mpr h.sorted)
  have e2 : ns.map (entD (partsOf rws)) = due.map dueD := by
    rw [e1, List.map_map]
    refine List.map_congr_left fun p hp => ?_
    show entD (partsOf rws) p.1 = dueD p
    unfold entD dueD
    rw [look_mem h.nodup (h.perm.mem_iff.mpr hp)]
  have e3 : (partsOf rws = []) ↔ due = [] := ⟨fun q => by have := h.perm; rw [q] at this; exact this.symm.eq_nil, fun q => by have := h.perm; rw [q] at this; exact this.eq_nil⟩
  rw [e2]
  simp only [e3]
theorem told_bad {wrong : List Int} {bad : Bool} (h : Due many k rws due) (hb : pstep (partsOf rws, if partsOf rws = [] then none else some many) (payOf (true, wrong)) = .error bad) (ht : ToldIs ((rws ++ [(true, wrong)]).map payOf) dat) : dat = .tuple [.list [], .none, .str (badMsg bad)] := by
  unfold ToldIs at ht
  rw [List.map_append, pfold_append, h.fold] at ht
  dsimp only at ht
  rw [show [(true, wrong)].map payOf = [payOf (true, wrong)] from rfl, pfold, hb] at ht
  exact ht
theorem bad_odd {wrong : List Int} {st : PSt} (hm : 1 ≤ many) (hw : wrong ∈ [[], [1], [0, many], [many + 1, many], [1, 0], [0, 0]]) : pstep st (payOf (true, wrong)) = .error false := by
  refine pstep_odd pay_part ?_
  simp only [List.mem_cons, List.not_mem_nil, or_false] at hw
  rcases hw with rfl | rfl | rfl | rfl | rfl | rfl
  · exact .inl (by decide)
  · exact .inl (by decide)
  · refine .inr (.inr ?_); rw [pay_12]; omega
  · refine .inr (.inr ?_); rw [pay_12, pay_13]; omega
  · exact .inr (.inl pay_13)
  · exact .inr (.inl pay_13)
theorem bad_unfit {a b : Int} {wrong : List Int} (h : Due many k rws due) (hk : k ≤ many) (hne : due ≠ []) (ha : a ∈ due.map (·.1)) (hb : b ∈ due.map (·.1)) (hw : wrong ∈ [[a, many, 5], [b, many], [1, many + 1], [many + 1, many + 2]]) :
    pstep (partsOf rws, if partsOf rws = [] then none else some many) (payOf (true, wrong)) = .error true := by
  have e3 : partsOf rws ≠ [] := fun q => hne (by have := h.perm; rw [q] at this; exact this.symm.eq_nil)
  rw [if_neg e3]
  have key : ∀ {x : Int}, x ∈ due.map (·.1) → x ∈ (partsOf rws).map (·.1) ∧ 1 ≤ x ∧ x ≤ many := fun {x} hx => by
    refine ⟨((h.perm.map (·.1)).mem_iff).mpr hx, ?_⟩
    obtain ⟨p, hp, rfl⟩ := List.mem_map.mp hx
    have := h.bound p hp
    omega
  have ka := key ha
  have kb := key hb
  simp only [List.mem_cons, List.not_mem_nil, or_false] at hw
  rcases hw with rfl | rfl | rfl | rfl
  · exact pstep_unfit pay_part (not_odd ka.2.1 ka.2.2) (.inr (by rw [pay_12]; exact ka.1))
  · exact pstep_unfit pay_part (not_odd kb.2.1 kb.2.2) (.inr (by rw [pay_12]; exact kb.1))
  · exact pstep_unfit pay_part (not_odd (by omega) (by omega)) (.inl ⟨by simp, by rw [pay_13]; intro q; have := Option.some.inj q; omega⟩)
  · exact pstep_unfit pay_part (not_odd (by omega) (by omega)) (.inl ⟨by simp, by rw [pay_13]; intro q; have := Option.some.inj q; omega⟩)
theorem due_start : Due many 0 [] [] := ⟨fun r h => absurd h List.not_mem_nil, List.Perm.refl _, List.Pairwise.nil, fun p h => absurd h List.not_mem_nil⟩
theorem Due.wider {k' : Int} (h : Due many k rws due) (hk : k ≤ k') : Due many k' rws due := ⟨h.good, h.perm, h.sorted, fun p hp => ⟨(h.bound p hp).1, Int.le_trans (h.bound p hp).2 hk⟩⟩
theorem Due.part {n : Int} {o : List Int} {j : Nat} (h : Due many k rws due) (hn : n = k + 1) (h0 : 0 ≤ k) (hm : n ≤ many) : Due many n (rws.take j ++ [(true, n :: many :: o)] ++ rws.drop j) (due ++ [(n, o)]) := by
  subst hn
  refine ⟨fun r hr => ?_, ?_, ?_, fun p hp => ?_⟩
  · rcases List.mem_append.mp hr with hr | hr
    · rcases List.mem_append.mp hr with hr | hr
      · exact h.good r (List.mem_of_mem_take hr)
      · rw [List.mem_singleton.mp hr]
        exact .inl ⟨k + 1, o, rfl, by omega, hm⟩
    · exact h.good r (List.mem_of_mem_drop hr)
  · unfold partsOf
    rw [List.filterMap_append, List.filterMap_append]
    have e : List.filterMap partOf1 [(true, (k + 1) :: many :: o)] = [(k + 1, o)] := rfl
    rw [e, List.append_assoc]
    refine (List.perm_append_comm_assoc _ _ _).trans ?_
    rw [← List.filterMap_append, List.take_append_drop]
    exact (List.perm_append_comm).trans (h.perm.append_right _)
  · rw [List.pairwise_append]
    refine ⟨h.sorted, List.pairwise_singleton _ _, fun x hx y hy => ?_⟩
    rw [List.mem_singleton.mp hy]
    have := h.bound x hx
    show x.1 < k + 1
    omega
  · rcases List.mem_append.mp hp with hp | hp
    · have := h.bound p hp; omega
    · rw [List.mem_singleton.mp hp]; exact ⟨by show 1 ≤ k + 1; omega, Int.le_refl _⟩
theorem Due.other {o : List Int} (h : Due many k rws due) (ho : ¬ isProf o) : Due many k (rws ++ [(false, o)]) due := by
  refine ⟨fun r hr => ?_, ?_, h.sorted, h.bound⟩
  · rcases List.mem_append.mp hr with hr | hr
    · exact h.good r hr
    · rw [List.mem_singleton.mp hr]; exact .inr ⟨o, rfl, ho⟩
  · unfold partsOf
    rw [List.filterMap_append, show List.filterMap partOf1 [(false, o)] = [] from rfl, List.append_nil]
    exact h.perm
theorem told_first {dat : Dat} (ht : ToldIs [payOf (true, [1, 3]), payOf (true, [1, 3])] dat) : dat = .tuple [.list [], .none, .str (badMsg true)] := by
  have h : Due 3 1 [(true, [1, 3])] [(1, [])] := by
    have := (due_start (many := 3)).part (n := 1) (o := []) (j := 0) rfl (by decide) (by decide)
    exact this
  exact told_bad h (bad_unfit (wrong := [1, 3]) (a := 1) (b := 1) h (by decide) (by simp) (by simp) (by simp) (by simp)) ht
end
theorem ok_bad (b : Bool) : kqdOk 8 (.tuple [.list [], .none, .str (badMsg b)]) = true := by
  cases b <;> decide +kernel
theorem ok_ints (o : List Int) : kqdOk 4 (.list (o.map Dat.int)) = true := by
  simp [kqdOk]
theorem ok_dueD (p : Int × List Int) : kqdOk 5 (dueD p) = true := by
  unfold dueD
  simp only [kqdOk, List.all_cons, List.all_nil, Bool.true_and, Bool.and_true]
  simp [kqdOk]
theorem ok_dueL (due : List (Int × List Int)) : kqdOk 8 (.list (due.map dueD)) = true := by
  simp only [kqdOk, List.all_map, List.all_eq_true]
  intro p _
  show kqdOk 7 (dueD p) = true
  unfold dueD
  simp [kqdOk]
theorem ok_due (due : List (Int × List Int)) (mo : Option Int) : kqdOk 8 (.tuple [.list (due.map dueD), manyD mo, .str (Str.ofString "")]) = true := by
  have h1 : kqdOk 7 (.list (due.map dueD)) = true := by
    simp only [kqdOk, List.all_map, List.all_eq_true]
    intro p _
    show kqdOk 6 (dueD p) = true
    unfold dueD
    simp [kqdOk]
  have h2 : kqdOk 7 (manyD mo) = true := by cases mo <;> simp [manyD, kqdOk]
  have h3 : kqdOk 7 (.str (Str.ofString "")) = true := by decide +kernel
  rw [kqdOk]
  simp only [List.all_cons, List.all_nil, h1, h2, h3, Bool.and_self]
end Mine
end

section
open PySem PySem.W PyProof.Rows PySem.Calls PySem.Spec
set_option maxRecDepth 100000
namespace Mine
def OthersAre (X : List (Addr × Obj)) (ovs : List Value) : Prop := ∀ v ∈ ovs, ∃ (l : Addr) (k : Nat) (vs : List Value) (ns : List Int), v = .ref l ∧ (l, listOf vs.toArray k) ∈ X ∧ IntsAre vs ns ∧ KBa.In ns ∧ ns.length ≤ 50 ∧ ¬ isProf ns
structure Bag (own : List (Addr × Obj)) (C : Addr) (oc : Obj) (ol : Addr) (ovs : List Value) (on : Nat) (M k : Int) (g sd : Int) (src rl dl : Addr) (rvs dvs : List Value) (rws : List Row) (due : List (Int × List Int)) (X : List (Addr × Obj)) : Prop where
  hg : 0 ≤ g
  hs : 0 ≤ sd
  hs1 : sd < 2147483647
  cell : (C, oc) ∈ X
  oth : (ol, listOf ovs.toArray on) ∈ X
  othv : OthersAre X ovs
  rows : RowsAre X rvs rws
  rlen : (rvs.length : Int) ≤ 2 * k
  dues : DatAll X dvs (due.map dueD)
  due : Due M k rws due
  offX : ∀ p ∈ X ++ own, p.1 ≠ src ∧ p.1 ≠ rl ∧ p.1 ≠ dl
  rs : rl ≠ src
  ds : dl ≠ src
  rd : rl ≠ dl
  oo : ∀ p ∈ own, ∀ q ∈ X, p.1 ≠ q.1
  dlen : (dvs.length : Int) ≤ k
section
variable {own X : List (Addr × Obj)} {C ol src rl dl D : Addr} {oc o os orl od : Obj} {ovs rvs dvs : List Value} {on : Nat} {M k g sd : Int} {rws : List Row} {due : List (Int × List Int)}
theorem OthersAre.mono {X' : List (Addr × Obj)} (h : OthersAre X ovs) (hs : ∀ p ∈ X, p ∈ X') : OthersAre X' ovs := fun v hv => by
  obtain ⟨l, k, vs, ns, a, b, c⟩ := h v hv
  exact ⟨l, k, vs, ns, a, hs _ b, c⟩
theorem Bag.grow (b : Bag own C oc ol ovs on M k g sd src rl dl rvs dvs rws due X) (hD : ∀ p ∈ (src, os) :: (C, oc) :: (rl, orl) :: (dl, od) :: (X ++ own), p.1 ≠ D) : Bag own C oc ol ovs on M k g sd src rl dl rvs dvs rws due ((D, o) :: X) := by
  have mm : ∀ p ∈ X, p ∈ (D, o) :: X := fun p hp => .tail _ hp
  have d1 := hD (src, os) (.head _)
  have d2 := hD (rl, orl) (.tail _ (.tail _ (.head _)))
  have d3 := hD (dl, od) (.tail _ (.tail _ (.tail _ (.head _))))
  refine ⟨b.hg, b.hs, b.hs1, mm _ b.cell, mm _ b.oth, b.othv.mono mm, b.rows.mono mm, b.rlen, b.dues.mono mm, b.due, fun p hp => ?_, b.rs, b.ds, b.rd, fun p hp q hq => ?_, b.dlen⟩
  · rcases List.mem_cons.mp hp with rfl | hp
    · exact ⟨Ne.symm d1, Ne.symm d2, Ne.symm d3⟩
    · exact b.offX p hp
  · rcases List.mem_cons.mp hq with rfl | hq
    · exact hD p (.tail _ (.tail _ (.tail _ (.tail _ (List.mem_append.mpr (.inr hp))))))
    · exact b.oo p hp q hq
theorem Bag.took {g' sd' : Int} (b : Bag own C oc ol ovs on M k g sd src rl dl rvs dvs rws due X) (h1 : 0 ≤ g') (h2 : 0 ≤ sd') (h3 : sd' < 2147483647) : Bag own C oc ol ovs on M k g' sd' src rl dl rvs dvs rws due X :=
  ⟨h1, h2, h3, b.cell, b.oth, b.othv, b.rows, b.rlen, b.dues, b.due, b.offX, b.rs, b.ds, b.rd, b.oo, b.dlen⟩
/-- the rest behind the source, off the source -/
theorem Bag.offS (b : Bag own C oc ol ovs on M k g sd src rl dl rvs dvs rws due X) : ∀ p ∈ (C, oc) :: (rl, orl) :: (dl, od) :: (X ++ own), p.1 ≠ src := by
  intro p hp
  rcases List.mem_cons.mp hp with rfl | hp
  · exact (b.offX _ (List.mem_append.mpr (.inl b.cell))).1
  · rcases List.mem_cons.mp hp with rfl | hp
    · exact b.rs
    · rcases List.mem_cons.mp hp with rfl | hp
      · exact b.ds
      · exact (b.offX p hp).1
theorem Bag.offR (b : Bag own C oc ol ovs on M k g sd src rl dl rvs dvs rws due X) : ∀ p ∈ (src, os) :: (C, oc) :: (dl, od) :: (X ++ own), p.1 ≠ rl := by
  intro p hp
  rcases List.mem_cons.mp hp with rfl | hp
  · exact Ne.symm b.rs
  · rcases List.mem_cons.mp hp with rfl | hp
    · exact (b.offX _ (List.mem_append.mpr (.inl b.cell))).2.1
    · rcases List.mem_cons.mp hp with rfl | hp
      · exact Ne.symm b.rd
      · exact (b.offX p hp).2.1
theorem Bag.offD (b : Bag own C oc ol ovs on M k g sd src rl dl rvs dvs rws due X) : ∀ p ∈ (src, os) :: (C, oc) :: (rl, orl) :: (X ++ own), p.1 ≠ dl := by
  intro p hp
  rcases List.mem_cons.mp hp with rfl | hp
  · exact Ne.symm b.ds
  · rcases List.mem_cons.mp hp with rfl | hp
    · exact (b.offX _ (List.mem_append.mpr (.inl b.cell))).2.2
    · rcases List.mem_cons.mp hp with rfl | hp
      · exact b.rd
      · exact (b.offX p hp).2.2
/-- the ledger in its standing order -/
theorem Bag.stand {h₀ h : Heap} {L : Addr} (b : Bag own C oc ol ovs on M k g sd src rl dl rvs dvs rws due X) (N : News h₀ L h (((src, os) :: (rl, orl) :: (dl, od) :: X) ++ own)) : News h₀ L h ((src, os) :: (C, oc) :: (rl, orl) :: (dl, od) :: (X ++ own)) := by
  refine KStt.news_of N fun p hp => ?_
  rcases List.mem_cons.mp hp with rfl | hp
  · exact .head _
  · rcases List.mem_cons.mp hp with rfl | hp
    · exact .tail _ (.tail _ (.tail _ (List.mem_append.mpr (.inl b.cell))))
    · exact .tail _ hp
/-- a part stands in its place -/
theorem Bag.part {n : Int} {o : List Int} {j : Nat} {P q T pl rl' : Addr} {tp : Tok} {kp kq kT kl : Nat} {tn : Tok} {qs ps : List Value} (b : Bag own C oc ol ovs on M k g sd src rl dl rvs dvs rws due X) (hn : n = k + 1) (h0 : 0 ≤ k) (hm : n ≤ M) (hM : M ≤ 5)
    (hP : (P, rowTup true tp q kp) ∈ X) (hq : (q, listOf qs.toArray kq) ∈ X) (hqi : IntsAre qs (n :: M :: o)) (hoi : KBa.In o) (hol : o.length ≤ 3)
    (hT : (T, ({ cls := .type "tuple", data := .seq #[.int n tn, .ref pl] kT } : Obj)) ∈ X) (hp : (pl, listOf ps.toArray kl) ∈ X) (hpi : IntsAre ps o)
    (hD : ∀ p ∈ (src, os) :: (C, oc) :: (dl, od) :: (X ++ own), p.1 ≠ rl') :
    Bag own C oc ol ovs on M n g sd src rl' dl (rvs.take j ++ [.ref P] ++ rvs.drop j) (dvs ++ [.ref T]) (rws.take j ++ [(true, n :: M :: o)] ++ rws.drop j) (due ++ [(n, o)]) X := by
  have hin : KBa.In (n :: M :: o) := by
    intro x hx
    rcases List.mem_cons.mp hx with rfl | hx
    · omega
    · rcases List.mem_cons.mp hx with rfl | hx
      · omega
      · exact hoi x hx
  refine ⟨b.hg, b.hs, b.hs1, b.cell, b.oth, b.othv, ?_, ?_, ?_, b.due.part hn h0 hm, fun p hp => ⟨(b.offX p hp).1, hD p (.tail _ (.tail _ (.tail _ hp))), (b.offX p hp).2.2⟩, Ne.symm (hD (src, os) (.head _)), b.ds, Ne.symm (hD (dl, od) (.tail _ (.tail _ (.head _)))), b.oo, by have := b.dlen; simp; omega⟩
  · exact ((b.rows.take j).append (.cons (part := true) hP hq hqi hin (by simp; omega) .nil)).append (b.rows.drop j)
  · have := b.rlen
    simp only [List.length_append, List.length_take, List.length_drop, List.length_cons, List.length_nil]
    omega
  · rw [List.map_append]
    exact b.dues.append (DatAll.one (DatIn.tuple (vs := [_, _]) hT (.cons (.int n tn) (.cons (.list hp (ints_dat hpi)) .nil))))
theorem Bag.other {l U : Addr} {tp : Tok} {kl kU : Nat} {vs : List Value} {ns : List Int} (b : Bag own C oc ol ovs on M k g sd src rl dl rvs dvs rws due X) (hU : (U, rowTup false tp l kU) ∈ X) (hl : (l, listOf vs.toArray kl) ∈ X) (hi : IntsAre vs ns) (hin : KBa.In ns) (hlen : ns.length ≤ 50) (hnp : ¬ isProf ns) (hr : (rvs.length : Int) + 1 ≤ 2 * k) :
    Bag own C oc ol ovs on M k g sd src rl dl (rvs ++ [.ref U]) dvs (rws ++ [(false, ns)]) due X :=
  ⟨b.hg, b.hs, b.hs1, b.cell, b.oth, b.othv, b.rows.append (.cons (part := false) hU hl hi hin hlen .nil), by simp; omega, b.dues, b.due.other hnp, b.offX, b.rs, b.ds, b.rd, b.oo, b.dlen⟩
theorem Bag.ownOff (b : Bag own C oc ol ovs on M k g sd src rl dl rvs dvs rws due X) (hs : ∀ p ∈ own, p.1 ≠ src ∧ p.1 ≠ rl ∧ p.1 ≠ dl) : OwnOff own (((src, os) :: (rl, orl) :: (dl, od) :: X).map (·.1)) := by
  intro p hp a ha e
  rcases List.mem_cons.mp ha with rfl | ha
  · exact (hs p hp).1 e
  · rcases List.mem_cons.mp ha with rfl | ha
    · exact (hs p hp).2.1 e
    · rcases List.mem_cons.mp ha with rfl | ha
      · exact (hs p hp).2.2 e
      · obtain ⟨q, hq, rfl⟩ := List.mem_map.mp ha
        exact b.oo p hp q hq e
theorem Bag.ownOff' (b : Bag own C oc ol ovs on M k g sd src rl dl rvs dvs rws due X) : OwnOff own (((src, os) :: (rl, orl) :: (dl, od) :: X).map (·.1)) :=
  b.ownOff fun p hp => b.offX p (List.mem_append.mpr (.inr hp))
/-- a new turn begins with the loop's own objects -/
theorem Bag.enter (b : Bag [] C oc ol ovs on M k g sd src rl dl rvs dvs rws due X) (h : OwnOff own (((src, os) :: (rl, orl) :: (dl, od) :: X).map (·.1))) : Bag own C oc ol ovs on M k g sd src rl dl rvs dvs rws due X := by
  refine ⟨b.hg, b.hs, b.hs1, b.cell, b.oth, b.othv, b.rows, b.rlen, b.dues, b.due, fun p hp => ?_, b.rs, b.ds, b.rd, fun p hp q hq => ?_, b.dlen⟩
  · rcases List.mem_append.mp hp with hp | hp
    · exact b.offX p (List.mem_append.mpr (.inl hp))
    · exact ⟨h p hp src (.head _), h p hp rl (.tail _ (.head _)), h p hp dl (.tail _ (.tail _ (.head _)))⟩
  · exact h p hp q.1 (.tail _ (.tail _ (.tail _ (List.mem_map.mpr ⟨q, hq, rfl⟩))))
theorem Bag.exit (b : Bag own C oc ol ovs on M k g sd src rl dl rvs dvs rws due X) : Bag [] C oc ol ovs on M k g sd src rl dl rvs dvs rws due X :=
  ⟨b.hg, b.hs, b.hs1, b.cell, b.oth, b.othv, b.rows, b.rlen, b.dues, b.due, fun p hp => b.offX p (by rw [List.append_nil] at hp; exact List.mem_append.mpr (.inl hp)), b.rs, b.ds, b.rd, (by intro p hp; cases hp), b.dlen⟩
theorem Bag.next (b : Bag own C oc ol ovs on M k g sd src rl dl rvs dvs rws due X) {k' : Int} (hk : k ≤ k') : Bag own C oc ol ovs on M k' g sd src rl dl rvs dvs rws due X :=
  ⟨b.hg, b.hs, b.hs1, b.cell, b.oth, b.othv, b.rows, by have := b.rlen; omega, b.dues, b.due.wider hk, b.offX, b.rs, b.ds, b.rd, b.oo, Int.le_trans b.dlen hk⟩
end
section
variable {prog : Program} {w : World} {A : Around} {E : Value → Shared → Prop} {s : Shared} {h₀ : Heap} {L D : Addr} {m : Str → Option Value}
theorem app_K {vs : List Value} {n : Nat} {x : Value} {rest : List (Addr × Obj)} {Q : Value → Shared → Prop} (F : Fr h₀ L s.heap m) (N : News h₀ L s.heap ((D, listOf vs.toArray n) :: rest)) (off : ∀ p ∈ rest, p.1 ≠ D) (hl : vs.length ≤ 1000)
    (h : ∀ h', Fr h₀ L h' m → News h₀ L h' ((D, listOf (vs ++ [x]).toArray (n + 1)) :: rest) → Q .none { s with heap := h' }) : wpAny (model prog w) A (call (.builtin "list.append") [.ref D, x]) Q E s := by
  refine append_K F N (Upd.head off) (fun h' F' N' => h h' F' ?_) (by rw [List.size_toArray, sizeLine_eq]; omega)
  rw [List.push_toArray] at N'
  exact N'
theorem pick_to {vs : List Value} {r : Int} (h0 : 0 ≤ r) : kms_pick vs none (some r) = vs.take r.toNat := by
  unfold kms_pick kms_lo kms_hi
  dsimp only
  rw [if_neg (by omega), List.drop_zero, Nat.sub_zero]
  exact kmk_take_min vs r.toNat
theorem pick_from {vs : List Value} {r : Int} (h0 : 0 ≤ r) : kms_pick vs (some r) none = vs.drop r.toNat := by
  unfold kms_pick kms_lo kms_hi
  dsimp only
  rw [if_neg (by omega), kmk_drop_min, List.take_of_length_le (by rw [List.length_drop]; omega)]
end
section
variable {prog : Program} {w : World} {A : Around} {E : Value → Shared → Prop} {s : Shared} {env : Env} {h₀ : Heap} {x : Str} {body : List Stmt} {Q : Flow → Shared → Prop} {m₀ : Str → Option Value} {news : List (Addr × Obj)}
/-- for x in range(a, b), by an invariant over the ledger -/
theorem range_iter {r : Addr} {a₀ b₀ : Int} {t₀ u₀ v₀ : Tok} {n : Nat} (J : Nat → (Str → Option Value) → List (Addr × Obj) → Prop) (hh : A.handled = none) (hr : IsRange s.heap r a₀ b₀ 1 t₀ u₀ v₀) (hsmall : Builtin.Range.small a₀ b₀ 1 = true) (hsz : Builtin.Range.rangeSize a₀ b₀ 1 = (n : Int))
    (F : Fr h₀ env.locals s.heap m₀) (N : News h₀ env.locals s.heap news) (hj : J 0 m₀ news)
    (turn : ∀ i t m₁ nx h tk own, i < n → OwnOff own (nx.map (·.1)) → J i m₁ nx → Fr h₀ env.locals h (fun y => if y = x then some (.int (a₀ + (i : Int)) t) else m₁ y) → News h₀ env.locals h (nx ++ own) →
      wpAny (model prog w) A (execs body env) (InvPostG h₀ env.locals (J (i + 1)) own { s with heap := h, toks := tk } Q) E { s with heap := h, toks := tk })
    (done : ∀ m₁ nx h tk, J n m₁ nx → Fr h₀ env.locals h m₁ → News h₀ env.locals h nx → Q .next { s with heap := h, toks := tk }) :
    wpAny (model prog w) A (pyIter (.ref r)) (fun it s₂ => LoopAtV prog w A h₀ env x body Q E it s₂) E s := by
  refine wpAny_pyIter_range hr hsmall ?_
  have W : Walks prog w A s.heap.objs.size [s.heap.objs.size] [s.heap.objs.size] n (fun i v => i < n ∧ ∃ t, v = .int (a₀ + i * 1) t)
      (fun i h => IsRangeIter h s.heap.objs.size (a₀ + (i : Nat) * 1) ((n : Int) - (i : Nat)) 1) := (Walks.range hh _ a₀ 1 n).bound
  refine kdr_loop J W (fun _ h => h) (fun _ h => h) ?_ ?_ ?_ ?_ (by show IsRangeIter _ _ _ _ _; rw [hsz]; simpa using Heap.get?_push_size _ rfl) (F.push _) (fun p hp => ⟨Heap.get?_push_of_some _ (N p hp).1, (N p hp).2⟩) hj ?_ ?_
  · intro i h hi b hb
    rw [List.mem_singleton.mp hb]
    exact ⟨_, hi⟩
  · intro hm
    exact absurd F.ns.lt ((List.mem_singleton.mp hm) ▸ Nat.lt_irrefl _)
  · intro b hb
    rw [List.mem_singleton.mp hb]
    exact next_is_new F
  · intro p hp hI
    exact absurd (Heap.lt_size (N p hp).1) ((List.mem_singleton.mp hI) ▸ Nat.lt_irrefl _)
  · rintro i v m₁ nx h tk own hi ⟨_, t, rfl⟩ hoff hJ F₁ N₁
    have e1 : a₀ + (i : Int) * 1 = a₀ + (i : Int) := by omega
    rw [e1] at F₁
    exact turn i t m₁ nx h tk own hi hoff hJ F₁ N₁
  · intro m₁ nx h tk hJ F₁ N₁
    exact done m₁ nx h tk hJ F₁ N₁
end
theorem mapL {m m₀ : Str → Option Value} {v : Value} (h1 : m (Str.ofString "rows") = some v) (h2 : ∀ z, z ≠ Str.ofString "rows" → z ≠ Str.ofString "octets" → z ≠ Str.ofString "place" → z ≠ Str.ofString "number" → m z = m₀ z) :
    m = fun y => if y = Str.ofString "rows" then some v else if y = Str.ofString "octets" then m (Str.ofString "octets") else if y = Str.ofString "place" then m (Str.ofString "place") else if y = Str.ofString "number" then m (Str.ofString "number") else m₀ y := by
  funext y
  by_cases e1 : y = Str.ofString "rows"
  · rw [if_pos e1, e1]; exact h1
  · rw [if_neg e1]
    by_cases e2 : y = Str.ofString "octets"
    · rw [if_pos e2, e2]
    · rw [if_neg e2]
      by_cases e3 : y = Str.ofString "place"
      · rw [if_pos e3, e3]
      · rw [if_neg e3]
        by_cases e4 : y = Str.ofString "number"
        · rw [if_pos e4, e4]
        · rw [if_neg e4]; exact h2 y e1 e2 e3 e4
def LJ (C : Addr) (oc : Obj) (ol : Addr) (ovs : List Value) (on : Nat) (M : Int) (src dl : Addr) (m₀ : Str → Option Value) (i : Nat) (m : Str → Option Value) (nx : List (Addr × Obj)) : Prop :=
  ∃ (g sd : Int) (t1 t2 : Tok) (sn : Nat) (rl : Addr) (rvs dvs : List Value) (rn dn : Nat) (rws : List Row) (due : List (Int × List Int)) (X : List (Addr × Obj)),
    nx = (src, listOf #[.int g t1, .int sd t2] sn) :: (rl, listOf rvs.toArray rn) :: (dl, listOf dvs.toArray dn) :: X ∧ Bag [] C oc ol ovs on M i g sd src rl dl rvs dvs rws due X ∧
    m (Str.ofString "rows") = some (.ref rl) ∧ ∀ z, z ≠ Str.ofString "rows" → z ≠ Str.ofString "octets" → z ≠ Str.ofString "place" → z ≠ Str.ofString "number" → m z = m₀ z
theorem first_bag {C src rl dl o1 o2 o3 o4 ol : Addr} {oc : Obj} {M g sd : Int} {v2 v3 v4 : List Value} (hC : C < src) (h1 : src < rl) (h2 : rl < dl) (h3 : dl < o1) (h4 : dl < o2) (h5 : dl < o3) (h6 : dl < o4) (h7 : dl < ol) (hg : 0 ≤ g) (hs : 0 ≤ sd) (hs1 : sd < 2147483647)
    (i2 : IntsAre v2 [73, 67, 67]) (i3 : IntsAre v3 [73, 67, 67, 95, 80, 82, 79, 70, 73, 76, 69, 1, 1, 1]) (i4 : IntsAre v4 [1, 1, 9]) :
    Bag [] C oc ol [.ref o1, .ref o2, .ref o3, .ref o4] 0 M 0 g sd src rl dl [] [] [] [] [(ol, listOf (List.toArray [.ref o1, .ref o2, .ref o3, .ref o4]) 0), (o4, listOf v4.toArray 0), (o3, listOf v3.toArray 0), (o2, listOf v2.toArray 0), (o1, listOf (List.toArray []) 0), (C, oc)] := by
  have hC' : @LT.lt Nat _ C src := hC
  have h1' : @LT.lt Nat _ src rl := h1
  have h2' : @LT.lt Nat _ rl dl := h2
  have big : ∀ {a : Addr}, @LT.lt Nat _ dl a → a ≠ src ∧ a ≠ rl ∧ a ≠ dl := fun {a} h => ⟨Nat.ne_of_gt (Nat.lt_trans h1' (Nat.lt_trans h2' h)), Nat.ne_of_gt (Nat.lt_trans h2' h), Nat.ne_of_gt h⟩
  refine ⟨hg, hs, hs1, by k_mem, by k_mem, fun v hv => ?_, .nil, by simp, .nil, due_start, fun p hp => ?_, Nat.ne_of_gt h1', Nat.ne_of_gt (Nat.lt_trans h1' h2'), Nat.ne_of_lt h2', (by intro p hp; cases hp), by simp⟩
  · simp only [List.mem_cons, List.not_mem_nil, or_false] at hv
    rcases hv with rfl | rfl | rfl | rfl
    · exact ⟨o1, 0, [], [], rfl, by k_mem, .nil, (by intro k hk; cases hk), by simp, by decide⟩
    · exact ⟨o2, 0, v2, _, rfl, by k_mem, i2, (by intro k hk; simp at hk; omega), by simp, by decide⟩
    · exact ⟨o3, 0, v3, _, rfl, by k_mem, i3, (by intro k hk; simp at hk; omega), by simp, by decide⟩
    · exact ⟨o4, 0, v4, _, rfl, by k_mem, i4, (by intro k hk; simp at hk; omega), by simp, by decide⟩
  · simp only [List.append_nil, List.mem_cons, List.not_mem_nil, or_false] at hp
    rcases hp with rfl | rfl | rfl | rfl | rfl | rfl
    · exact big h7
    · exact big h6
    · exact big h5
    · exact big h4
    · exact big h3
    · exact ⟨Nat.ne_of_lt hC', Nat.ne_of_lt (Nat.lt_trans hC' h1'), Nat.ne_of_lt (Nat.lt_trans hC' (Nat.lt_trans h1' h2'))⟩
theorem arrange {h₀ h : Heap} {L : Addr} {p1 p2 p3 p4 p5 p6 pd pr ps pc : Addr × Obj} (N : News h₀ L h (p1 :: p2 :: p3 :: p4 :: p5 :: p6 :: pd :: pr :: ps :: ([].append [pc]))) : News h₀ L h (ps :: pr :: pd :: [p1, p2, p3, p4, p5, pc]) := by
  refine KStt.news_of N fun p hp => ?_
  simp only [List.mem_cons, List.not_mem_nil, or_false] at hp
  show p ∈ p1 :: p2 :: p3 :: p4 :: p5 :: p6 :: pd :: pr :: ps :: [pc]
  rcases hp with rfl | rfl | rfl | rfl | rfl | rfl | rfl | rfl | rfl <;> k_mem
theorem size_M {M : Int} (h : 1 ≤ M) : Builtin.Range.rangeSize 1 (M + 1) 1 = (M.toNat : Int) := by
  unfold Builtin.Range.rangeSize
  simp
  omega
theorem size_r {r : Int} (h : 0 ≤ r) : Builtin.Range.rangeSize 0 r 1 = (r.toNat : Int) := by
  unfold Builtin.Range.rangeSize
  simp
  omega
theorem ints_snoc {vs : List Value} {ns : List Int} {n : Int} {t : Tok} (h : IntsAre vs ns) : IntsAre (vs ++ [.int n t]) (ns ++ [n]) := by
  induction h with
  | nil => exact .cons n t .nil
  | cons a b _ ih => exact .cons a b ih
theorem in_snoc {ns : List Int} {n : Int} (h : KBa.In ns) (h0 : 0 ≤ n) (h1 : n < 256) : KBa.In (ns ++ [n]) := by
  intro x hx
  rcases List.mem_append.mp hx with hx | hx
  · exact h x hx
  · rw [List.mem_singleton.mp hx]; exact ⟨h0, h1⟩
theorem off1_mem {D : Addr} : ∀ {l : List (Addr × Obj)}, LCg.Off1 D l → ∀ p ∈ l, p.1 ≠ D
  | [], _, p, hp => by cases hp
  | q :: r, h, p, hp => by
    rcases List.mem_cons.mp hp with e | hp
    · rw [e]; exact h.1
    · exact off1_mem h.2 p hp
section
variable {h₀ h : Heap} {L : Addr} {a b c s r d : Addr × Obj} {X own : List (Addr × Obj)}
theorem in1 (N : News h₀ L h (a :: s :: c :: r :: d :: (X ++ own))) : News h₀ L h (s :: c :: r :: d :: ((a :: X) ++ own)) := by
  refine KStt.news_of N fun p hp => ?_
  rcases List.mem_cons.mp hp with rfl | hp
  · exact .tail _ (.head _)
  · rcases List.mem_cons.mp hp with rfl | hp
    · exact .tail _ (.tail _ (.head _))
    · rcases List.mem_cons.mp hp with rfl | hp
      · exact .tail _ (.tail _ (.tail _ (.head _)))
      · rcases List.mem_cons.mp hp with rfl | hp
        · exact .tail _ (.tail _ (.tail _ (.tail _ (.head _))))
        · rcases List.mem_cons.mp hp with rfl | hp
          · exact .head _
          · exact .tail _ (.tail _ (.tail _ (.tail _ (.tail _ hp))))
/-- the due list to the front, and back -/
theorem fore4 (N : News h₀ L h (s :: c :: r :: d :: X)) : News h₀ L h (d :: s :: c :: r :: X) := by
  refine KStt.news_of N fun p hp => ?_
  rcases List.mem_cons.mp hp with rfl | hp
  · exact .tail _ (.tail _ (.tail _ (.head _)))
  · rcases List.mem_cons.mp hp with rfl | hp
    · exact .head _
    · rcases List.mem_cons.mp hp with rfl | hp
      · exact .tail _ (.head _)
      · rcases List.mem_cons.mp hp with rfl | hp
        · exact .tail _ (.tail _ (.head _))
        · exact .tail _ (.tail _ (.tail _ (.tail _ hp)))
theorem back4 (N : News h₀ L h (d :: s :: c :: r :: X)) : News h₀ L h (s :: c :: r :: d :: X) := by
  refine KStt.news_of N fun p hp => ?_
  rcases List.mem_cons.mp hp with rfl | hp
  · exact .tail _ (.head _)
  · rcases List.mem_cons.mp hp with rfl | hp
    · exact .tail _ (.tail _ (.head _))
    · rcases List.mem_cons.mp hp with rfl | hp
      · exact .tail _ (.tail _ (.tail _ (.head _)))
      · rcases List.mem_cons.mp hp with rfl | hp
        · exact .head _
        · exact .tail _ (.tail _ (.tail _ (.tail _ hp)))
theorem fore3 (N : News h₀ L h (s :: c :: r :: d :: X)) : News h₀ L h (r :: s :: c :: d :: X) := by
  refine KStt.news_of N fun p hp => ?_
  rcases List.mem_cons.mp hp with rfl | hp
  · exact .tail _ (.tail _ (.head _))
  · rcases List.mem_cons.mp hp with rfl | hp
    · exact .head _
    · rcases List.mem_cons.mp hp with rfl | hp
      · exact .tail _ (.head _)
      · rcases List.mem_cons.mp hp with rfl | hp
        · exact .tail _ (.tail _ (.tail _ (.head _)))
        · exact .tail _ (.tail _ (.tail _ (.tail _ hp)))
theorem back3 (N : News h₀ L h (r :: s :: c :: d :: X)) : News h₀ L h (s :: c :: r :: d :: X) := by
  refine KStt.news_of N fun p hp => ?_
  rcases List.mem_cons.mp hp with rfl | hp
  · exact .tail _ (.head _)
  · rcases List.mem_cons.mp hp with rfl | hp
    · exact .tail _ (.tail _ (.head _))
    · rcases List.mem_cons.mp hp with rfl | hp
      · exact .head _
      · rcases List.mem_cons.mp hp with rfl | hp
        · exact .tail _ (.tail _ (.tail _ (.head _)))
        · exact .tail _ (.tail _ (.tail _ (.tail _ hp)))
end
theorem lt5 {D : Addr} {s c r d : Addr × Obj} {X : List (Addr × Obj)} (h : @LT.lt Nat _ s.1 D ∧ @LT.lt Nat _ c.1 D ∧ @LT.lt Nat _ r.1 D ∧ @LT.lt Nat _ d.1 D ∧ AllLt D X) : ∀ p ∈ s :: c :: r :: d :: X, p.1 ≠ D := by
  intro p hp
  rcases List.mem_cons.mp hp with rfl | hp
  · exact Nat.ne_of_lt h.1
  · rcases List.mem_cons.mp hp with rfl | hp
    · exact Nat.ne_of_lt h.2.1
    · rcases List.mem_cons.mp hp with rfl | hp
      · exact Nat.ne_of_lt h.2.2.1
      · rcases List.mem_cons.mp hp with rfl | hp
        · exact Nat.ne_of_lt h.2.2.2.1
        · exact Nat.ne_of_lt (lt_of_allLt h.2.2.2.2 p hp)
theorem allNe {D : Addr} {X : List (Addr × Obj)} (h : AllLt D X) : ∀ p ∈ X, p.1 ≠ D := fun p hp => Nat.ne_of_lt (lt_of_allLt h p hp)
theorem part_done {h₀ h : Heap} {L : Addr} {own X : List (Addr × Obj)} {C ol src rl dl q6 q5 q4 l9 P q2 l1 a1 T pl : Addr} {oc os orl od o6 o5 o4 o9 o1 oa : Obj} {ovs rvs dvs ws ps : List Value} {on : Nat} {M k g sd n : Int} {rws : List Row} {due : List (Int × List Int)} {o : List Int} {j : Nat} {tp tn : Tok}
    (b : Bag own C oc ol ovs on M k g sd src rl dl rvs dvs rws due ((T, ({ cls := .type "tuple", data := .seq #[.int n tn, .ref pl] } : Obj)) :: (pl, LCg.lst ps) :: X)) (hn : n = k + 1) (h0 : 0 ≤ k) (hm : n ≤ M) (hM : M ≤ 5)
    (N : News h₀ L h ((q6, o6) :: (q5, o5) :: (q4, o4) :: (l9, o9) :: (P, ({ cls := .type "tuple", data := .seq #[.str (Str.ofString "part") tp, .ref q2] } : Obj)) :: (q2, listOf ws.toArray 0) :: (l1, o1) :: (a1, oa) :: (src, os) :: (C, oc) :: (rl, orl) :: (dl, od) :: (((T, ({ cls := .type "tuple", data := .seq #[.int n tn, .ref pl] } : Obj)) :: (pl, LCg.lst ps) :: X) ++ own)))
    (hq2 : @LT.lt Nat _ l1 q2 ∧ @LT.lt Nat _ a1 q2 ∧ @LT.lt Nat _ src q2 ∧ @LT.lt Nat _ C q2 ∧ @LT.lt Nat _ rl q2 ∧ @LT.lt Nat _ dl q2 ∧ AllLt q2 (((T, ({ cls := .type "tuple", data := .seq #[.int n tn, .ref pl] } : Obj)) :: (pl, LCg.lst ps) :: X) ++ own))
    (hP : @LT.lt Nat _ q2 P ∧ @LT.lt Nat _ l1 P ∧ @LT.lt Nat _ a1 P ∧ @LT.lt Nat _ src P ∧ @LT.lt Nat _ C P ∧ @LT.lt Nat _ rl P ∧ @LT.lt Nat _ dl P ∧ AllLt P (((T, ({ cls := .type "tuple", data := .seq #[.int n tn, .ref pl] } : Obj)) :: (pl, LCg.lst ps) :: X) ++ own))
    (h6 : ∀ p ∈ (q5, o5) :: (q4, o4) :: (l9, o9) :: (P, ({ cls := .type "tuple", data := .seq #[.str (Str.ofString "part") tp, .ref q2] } : Obj)) :: (q2, listOf ws.toArray 0) :: (l1, o1) :: (a1, oa) :: (src, os) :: (C, oc) :: (rl, orl) :: (dl, od) :: (((T, ({ cls := .type "tuple", data := .seq #[.int n tn, .ref pl] } : Obj)) :: (pl, LCg.lst ps) :: X) ++ own), @LT.lt Nat _ p.1 q6)
    (hws : IntsAre ws (n :: M :: o)) (hps : IntsAre ps o) (hoi : KBa.In o) (hol : o.length ≤ 3) :
    Bag own C oc ol ovs on M n g sd src q6 dl (rvs.take j ++ [.ref P] ++ rvs.drop j) (dvs ++ [.ref T]) (rws.take j ++ [(true, n :: M :: o)] ++ rws.drop j) (due ++ [(n, o)]) ((P, rowTup true tp q2 0) :: (q2, listOf ws.toArray 0) :: (T, ({ cls := .type "tuple", data := .seq #[.int n tn, .ref pl] } : Obj)) :: (pl, LCg.lst ps) :: X) ∧
    News h₀ L h ((src, os) :: (C, oc) :: (q6, o6) :: (dl, od) :: (((P, rowTup true tp q2 0) :: (q2, listOf ws.toArray 0) :: (T, ({ cls := .type "tuple", data := .seq #[.int n tn, .ref pl] } : Obj)) :: (pl, LCg.lst ps) :: X) ++ own)) := by
  have b1 := b.grow (D := q2) (o := listOf ws.toArray 0) (os := os) (orl := orl) (od := od) (Mine.lt5 hq2.2.2)
  have b2 := b1.grow (D := P) (o := rowTup true tp q2 0) (os := os) (orl := orl) (od := od) (Mine.lt5 ⟨hP.2.2.2.1, hP.2.2.2.2.1, hP.2.2.2.2.2.1, hP.2.2.2.2.2.2.1, hP.1, hP.2.2.2.2.2.2.2⟩)
  refine ⟨b2.part hn h0 hm hM (.head _) (.tail _ (.head _)) hws hoi hol (.tail _ (.tail _ (.head _))) (kl := ps.length) (.tail _ (.tail _ (.tail _ (.head _)))) hps (os := os) (od := od) fun p hp => ?_, KStt.news_of N fun p hp => ?_⟩
  · refine Nat.ne_of_lt (h6 p ?_)
    rcases List.mem_cons.mp hp with rfl | hp
    · exact .tail _ (.tail _ (.tail _ (.tail _ (.tail _ (.tail _ (.tail _ (.head _)))))))
    · rcases List.mem_cons.mp hp with rfl | hp
      · exact .tail _ (.tail _ (.tail _ (.tail _ (.tail _ (.tail _ (.tail _ (.tail _ (.head _))))))))
      · rcases List.mem_cons.mp hp with rfl | hp
        · exact .tail _ (.tail _ (.tail _ (.tail _ (.tail _ (.tail _ (.tail _ (.tail _ (.tail _ (.tail _ (.head _))))))))))
        · rcases List.mem_cons.mp hp with rfl | hp
          · exact .tail _ (.tail _ (.tail _ (.head _)))
          · rcases List.mem_cons.mp hp with rfl | hp
            · exact .tail _ (.tail _ (.tail _ (.tail _ (.head _))))
            · exact .tail _ (.tail _ (.tail _ (.tail _ (.tail _ (.tail _ (.tail _ (.tail _ (.tail _ (.tail _ (.tail _ hp))))))))))
  · rcases List.mem_cons.mp hp with rfl | hp
    · exact .tail _ (.tail _ (.tail _ (.tail _ (.tail _ (.tail _ (.tail _ (.tail _ (.head _))))))))
    · rcases List.mem_cons.mp hp with rfl | hp
      · exact .tail _ (.tail _ (.tail _ (.tail _ (.tail _ (.tail _ (.tail _ (.tail _ (.tail _ (.head _)))))))))
      · rcases List.mem_cons.mp hp with rfl | hp
        · exact .head _
        · rcases List.mem_cons.mp hp with rfl | hp
          · exact .tail _ (.tail _ (.tail _ (.tail _ (.tail _ (.tail _ (.tail _ (.tail _ (.tail _ (.tail _ (.tail _ (.head _)))))))))))
          · rcases List.mem_cons.mp hp with rfl | hp
            · exact .tail _ (.tail _ (.tail _ (.tail _ (.head _))))
            · rcases List.mem_cons.mp hp with rfl | hp
              · exact .tail _ (.tail _ (.tail _ (.tail _ (.tail _ (.head _)))))
              · exact .tail _ (.tail _ (.tail _ (.tail _ (.tail _ (.tail _ (.tail _ (.tail _ (.tail _ (.tail _ (.tail _ (.tail _ hp)))))))))))
section
variable {h₀ h : Heap} {L : Addr} {own X : List (Addr × Obj)} {C ol src rl dl D : Addr} {oc o os orl od : Obj} {ovs rvs dvs : List Value} {on : Nat} {M k g sd : Int} {rws : List Row} {due : List (Int × List Int)}
theorem grow_N (b : Bag own C oc ol ovs on M k g sd src rl dl rvs dvs rws due X) (N : News h₀ L h ((D, o) :: (src, os) :: (C, oc) :: (rl, orl) :: (dl, od) :: (X ++ own)))
    (hl : @LT.lt Nat _ src D ∧ @LT.lt Nat _ C D ∧ @LT.lt Nat _ rl D ∧ @LT.lt Nat _ dl D ∧ AllLt D (X ++ own)) :
    Bag own C oc ol ovs on M k g sd src rl dl rvs dvs rws due ((D, o) :: X) ∧ News h₀ L h ((src, os) :: (C, oc) :: (rl, orl) :: (dl, od) :: (((D, o) :: X) ++ own)) :=
  ⟨b.grow (os := os) (orl := orl) (od := od) (Mine.lt5 hl), in1 N⟩
theorem Bag.foreO (b : Bag own C oc ol ovs on M k g sd src rl dl rvs dvs rws due X) (N : News h₀ L h ((src, os) :: (C, oc) :: (rl, orl) :: (dl, od) :: (X ++ own))) : News h₀ L h ((src, os) :: (ol, listOf ovs.toArray on) :: (C, oc) :: (rl, orl) :: (dl, od) :: (X ++ own)) := by
  refine KStt.news_of N fun p hp => ?_
  rcases List.mem_cons.mp hp with rfl | hp
  · exact .head _
  · rcases List.mem_cons.mp hp with rfl | hp
    · exact .tail _ (.tail _ (.tail _ (.tail _ (List.mem_append.mpr (.inl b.oth)))))
    · exact .tail _ hp
theorem backO {po s : Addr × Obj} {Y : List (Addr × Obj)} (N : News h₀ L h (s :: po :: Y)) : News h₀ L h (s :: Y) := by
  refine KStt.news_of N fun p hp => ?_
  rcases List.mem_cons.mp hp with rfl | hp
  · exact .head _
  · exact .tail _ (.tail _ hp)
theorem Bag.offO (b : Bag own C oc ol ovs on M k g sd src rl dl rvs dvs rws due X) : ∀ p ∈ (ol, listOf ovs.toArray on) :: (C, oc) :: (rl, orl) :: (dl, od) :: (X ++ own), p.1 ≠ src := by
  intro p hp
  rcases List.mem_cons.mp hp with rfl | hp
  · exact (b.offX _ (List.mem_append.mpr (.inl b.oth))).1
  · exact b.offS p hp
theorem turn_end {m' m₀ : Str → Option Value} {s₁ : Shared} {tk i : Nat} {t1 t2 : Tok} {sn rn dn : Nat} (F : Fr h₀ L h m') (N : News h₀ L h ((src, listOf #[.int g t1, .int sd t2] sn) :: (C, oc) :: (rl, listOf rvs.toArray rn) :: (dl, listOf dvs.toArray dn) :: (X ++ own)))
    (b : Bag own C oc ol ovs on M k g sd src rl dl rvs dvs rws due X) (hk : k ≤ ((i + 1 : Nat) : Int)) (h1 : m' (Str.ofString "rows") = some (.ref rl))
    (h2 : ∀ z, z ≠ Str.ofString "rows" → z ≠ Str.ofString "octets" → z ≠ Str.ofString "place" → z ≠ Str.ofString "number" → m' z = m₀ z) :
    InvEndG h₀ L (LJ C oc ol ovs on M src dl m₀ (i + 1)) own s₁ { s₁ with heap := h, toks := tk } := by
  refine InvEndG.intro (nx := (src, listOf #[.int g t1, .int sd t2] sn) :: (rl, listOf rvs.toArray rn) :: (dl, listOf dvs.toArray dn) :: X) F N ⟨g, sd, t1, t2, sn, rl, rvs, dvs, rn, dn, rws, due, X, rfl, b.exit.next hk, h1, h2⟩ b.ownOff' (fun p hp => ?_) fun p hp => .tail _ (.tail _ (.tail _ (.tail _ (List.mem_append.mpr (.inr hp)))))
  rcases List.mem_cons.mp hp with rfl | hp
  · exact .head _
  · rcases List.mem_cons.mp hp with rfl | hp
    · exact .tail _ (.tail _ (.head _))
    · rcases List.mem_cons.mp hp with rfl | hp
      · exact .tail _ (.tail _ (.tail _ (.head _)))
      · exact .tail _ (.tail _ (.tail _ (.tail _ (List.mem_append.mpr (.inl hp)))))
theorem Bag.rle (b : Bag own C oc ol ovs on M k g sd src rl dl rvs dvs rws due X) (hk : k ≤ 6) : rvs.length ≤ 1000 := by have := b.rlen; omega
end
theorem toldN {h₀ h : Heap} {L : Addr} {r s c d : Addr × Obj} {new Y : List (Addr × Obj)} (N : News h₀ L h (new ++ r :: s :: c :: d :: Y)) : News h₀ L h (s :: c :: r :: d :: (Y ++ new)) := by
  refine KStt.news_of N fun p hp => ?_
  rcases List.mem_cons.mp hp with rfl | hp
  · exact List.mem_append.mpr (.inr (.tail _ (.head _)))
  · rcases List.mem_cons.mp hp with rfl | hp
    · exact List.mem_append.mpr (.inr (.tail _ (.tail _ (.head _))))
    · rcases List.mem_cons.mp hp with rfl | hp
      · exact List.mem_append.mpr (.inr (.head _))
      · rcases List.mem_cons.mp hp with rfl | hp
        · exact List.mem_append.mpr (.inr (.tail _ (.tail _ (.tail _ (.head _)))))
        · rcases List.mem_append.mp hp with hp | hp
          · exact List.mem_append.mpr (.inr (.tail _ (.tail _ (.tail _ (.tail _ hp)))))
          · exact List.mem_append.mpr (.inl hp)
section
variable {prog : Program} {w : World} {A : Around} {E : Value → Shared → Prop} {s : Shared} {h₀ : Heap} {L dl l : Addr} {X news : List (Addr × Obj)} {dvs : List Value} {dn ln : Nat} {due : List (Int × List Int)} {b : Bool} {Q : Value → Shared → Prop}
theorem cmp_due_ne (N : News h₀ L s.heap news) (hl : (l, listOf (List.toArray []) ln) ∈ news) (hdl : (dl, listOf dvs.toArray dn) ∈ news) (hd : DatAll X dvs (due.map dueD)) (hX : ∀ p ∈ X, p ∈ news) (hu : A.units + 64 < cLine) (hb : due = [] ↔ b = true) (h : Q (.bool (!b)) s) :
    wpAny (model prog w) A (compareOp .NotEq (.ref dl) (.ref l)) Q E s :=
  cmp_ne N (DatIn.list hdl (hd.mono hX)) (fun _ h => h) (DatIn.list (vs := []) hl .nil) (fun _ h => h) (ok_dueL due) (by decide +kernel) hu (b := b) (by rw [← hb]; simp) h
theorem cmp_due_eq (N : News h₀ L s.heap news) (hl : (l, listOf (List.toArray []) ln) ∈ news) (hdl : (dl, listOf dvs.toArray dn) ∈ news) (hd : DatAll X dvs (due.map dueD)) (hX : ∀ p ∈ X, p ∈ news) (hu : A.units + 64 < cLine) (hb : due = [] ↔ b = true) (h : Q (.bool b) s) :
    wpAny (model prog w) A (compareOp .Eq (.ref dl) (.ref l)) Q E s :=
  cmp_eq N (DatIn.list hdl (hd.mono hX)) (fun _ h => h) (DatIn.list (vs := []) hl .nil) (fun _ h => h) (ok_dueL due) (by decide +kernel) hu (b := b) (by rw [← hb]; simp) h
end
theorem six_news {h₀ h : Heap} {L : Addr} {a b c d e f g s : Addr × Obj} {Y : List (Addr × Obj)} (N : News h₀ L h (a :: b :: c :: d :: e :: f :: g :: s :: Y)) : News h₀ L h (s :: a :: b :: c :: d :: e :: f :: g :: Y) := by
  refine KStt.news_of N fun p hp => ?_
  rcases List.mem_cons.mp hp with rfl | hp
  · simp
  · rcases List.mem_cons.mp hp with rfl | hp
    · exact .head _
    · simp only [List.mem_cons] at hp ⊢
      rcases hp with h | h | h | h | h | h | h <;> simp [h]
theorem six_done {h₀ h : Heap} {L l1 l2 l3 l4 l5 l6 : Addr} {s wl : Addr × Obj} {Y : List (Addr × Obj)} {v : Value} {M : Int} {t2 t3 t3' t4 t4' t5 t5' t6 t6' : Tok}
    (N : News h₀ L h (s :: wl :: (l6, listOf #[.int 0 t6, .int 0 t6'] 0) :: (l5, listOf #[.int 1 t5, .int 0 t5'] 0) :: (l4, listOf #[.int (M + 1) t4, .int M t4'] 0) :: (l3, listOf #[.int 0 t3, .int M t3'] 0) :: (l2, listOf #[.int 1 t2] 0) :: (l1, listOf #[] 0) :: Y))
    (hv : v ∈ [.ref l1, .ref l2, .ref l3, .ref l4, .ref l5, .ref l6]) :
    ∃ (lw : Addr) (vw : List Value) (nw : List Int), v = .ref lw ∧ IntsAre vw nw ∧ nw ∈ [[], [1], [0, M], [M + 1, M], [1, 0], [0, 0]] ∧ News h₀ L h ((lw, listOf vw.toArray 0) :: s :: Y) := by
  have key : ∀ {lw : Addr} {vw : List Value}, (lw, listOf vw.toArray 0) ∈ (s :: wl :: (l6, listOf #[.int 0 t6, .int 0 t6'] 0) :: (l5, listOf #[.int 1 t5, .int 0 t5'] 0) :: (l4, listOf #[.int (M + 1) t4, .int M t4'] 0) :: (l3, listOf #[.int 0 t3, .int M t3'] 0) :: (l2, listOf #[.int 1 t2] 0) :: (l1, listOf #[] 0) :: Y) → News h₀ L h ((lw, listOf vw.toArray 0) :: s :: Y) := by
    intro lw vw hm
    refine KStt.news_of N fun p hp => ?_
    rcases List.mem_cons.mp hp with rfl | hp
    · exact hm
    · rcases List.mem_cons.mp hp with rfl | hp
      · exact .head _
      · exact .tail _ (.tail _ (.tail _ (.tail _ (.tail _ (.tail _ (.tail _ (.tail _ hp)))))))
  simp only [List.mem_cons, List.not_mem_nil, or_false] at hv
  rcases hv with rfl | rfl | rfl | rfl | rfl | rfl
  · exact ⟨l1, [], [], rfl, .nil, by k_mem, key (by k_mem)⟩
  · exact ⟨l2, [.int 1 t2], [1], rfl, .cons 1 _ .nil, by k_mem, key (by k_mem)⟩
  · exact ⟨l3, [.int 0 t3, .int M t3'], [0, M], rfl, .cons 0 _ (.cons M _ .nil), by k_mem, key (by k_mem)⟩
  · exact ⟨l4, [.int (M + 1) t4, .int M t4'], [M + 1, M], rfl, .cons _ _ (.cons M _ .nil), by k_mem, key (by k_mem)⟩
  · exact ⟨l5, [.int 1 t5, .int 0 t5'], [1, 0], rfl, .cons 1 _ (.cons 0 _ .nil), by k_mem, key (by k_mem)⟩
  · exact ⟨l6, [.int 0 t6, .int 0 t6'], [0, 0], rfl, .cons 0 _ (.cons 0 _ .nil), by k_mem, key (by k_mem)⟩
theorem six_in {nw : List Int} {M : Int} (h : nw ∈ [[], [1], [0, M], [M + 1, M], [1, 0], [0, 0]]) (h0 : 1 ≤ M) (h5 : M ≤ 5) : KBa.In nw ∧ nw.length ≤ 50 := by
  simp only [List.mem_cons, List.not_mem_nil, or_false] at h
  rcases h with rfl | rfl | rfl | rfl | rfl | rfl <;> refine ⟨?_, by simp⟩ <;> intro k hk <;> simp at hk <;> omega
theorem rows_wrong {X : List (Addr × Obj)} {P2 lw : Addr} {a s c r d : Addr × Obj} {t : Tok} {vw rvs : List Value} {nw : List Int} {rws : List Row} (h : RowsAre X rvs rws) (hi : IntsAre vw nw) (hn : KBa.In nw ∧ nw.length ≤ 50) :
    RowsAre (a :: (P2, ({ cls := .type "tuple", data := .seq #[.str (Str.ofString "part") t, .ref lw] } : Obj)) :: (lw, listOf vw.toArray 0) :: s :: c :: r :: d :: (X ++ [])) (rvs ++ [.ref P2]) (rws ++ [(true, nw)]) :=
  (h.mono fun p hp => .tail _ (.tail _ (.tail _ (.tail _ (.tail _ (.tail _ (.tail _ (List.mem_append.mpr (.inl hp))))))))).append (.cons (part := true) (t := t) (k := 0) (.tail _ (.head _)) (.tail _ (.tail _ (.head _))) hi hn.1 hn.2 .nil)
theorem toldN4 {h₀ h : Heap} {L : Addr} {a b e f r s c d : Addr × Obj} {new Y : List (Addr × Obj)} (N : News h₀ L h (new ++ a :: b :: e :: f :: s :: c :: r :: d :: Y)) : News h₀ L h (s :: c :: r :: d :: (Y ++ new)) := by
  refine KStt.news_of N fun p hp => ?_
  simp only [List.mem_cons, List.mem_append] at hp ⊢
  rcases hp with h | h | h | h | h | h <;> simp [h]
theorem due_at {X : List (Addr × Obj)} : ∀ {dvs : List Value} {due : List (Int × List Int)} {j : Nat} {p : Int × List Int}, DatAll X dvs (due.map dueD) → due[j]? = some p → ∃ (T : Addr) (n : Nat) (t : Tok) (x : Value), dvs[j]? = some (.ref T) ∧ (T, ({ cls := .type "tuple", data := .seq (List.toArray [.int p.1 t, x]) n } : Obj)) ∈ X
  | _, [], j, p, _, h => by simp at h
  | _, q :: due, 0, p, hd, h => by
    simp at h
    subst h
    cases hd with
    | cons h1 h2 =>
      unfold dueD at h1
      cases h1 with
      | tuple hm ha =>
        cases ha with
        | cons a1 a2 =>
          cases a1 with
          | int i t =>
            cases a2 with
            | cons b1 b2 =>
              cases b2 with
              | nil => exact ⟨_, _, t, _, rfl, hm⟩
  | _, q :: due, j + 1, p, hd, h => by
    simp at h
    cases hd with
    | cons h1 h2 =>
      obtain ⟨T, n, t, x, e, hm⟩ := due_at h2 h
      exact ⟨T, n, t, x, by simpa using e, hm⟩
theorem due_two {X : List (Addr × Obj)} {dvs : List Value} {due : List (Int × List Int)} (hd : DatAll X dvs (due.map dueD)) (hne : due ≠ []) : ∃ (p q : Int × List Int) (T U : Addr) (n n' : Nat) (t t' : Tok) (x x' : Value), p.1 ∈ due.map (·.1) ∧ q.1 ∈ due.map (·.1) ∧
    dvs[0]? = some (.ref T) ∧ (T, ({ cls := .type "tuple", data := .seq (List.toArray [.int p.1 t, x]) n } : Obj)) ∈ X ∧ seqIndex? (-1) dvs.length = some (dvs.length - 1) ∧ dvs[dvs.length - 1]? = some (.ref U) ∧ (U, ({ cls := .type "tuple", data := .seq (List.toArray [.int q.1 t', x']) n' } : Obj)) ∈ X := by
  have hl : dvs.length = due.length := by have := hd.length; simpa using this
  have h1 : 0 < due.length := by
    cases due with
    | nil => exact absurd rfl hne
    | cons _ _ => simp
  obtain ⟨T, n, t, x, e1, m1⟩ := due_at hd (List.getElem?_eq_getElem h1)
  have h2 : due.length - 1 < due.length := by omega
  obtain ⟨U, n', t', x', e2, m2⟩ := due_at hd (List.getElem?_eq_getElem h2)
  refine ⟨due[0], due[due.length - 1], T, U, n, n', t, t', x, x', List.mem_map.mpr ⟨_, List.getElem_mem _, rfl⟩, List.mem_map.mpr ⟨_, List.getElem_mem _, rfl⟩, e1, m1, ?_, by rw [hl]; exact e2, m2⟩
  have e : (-1 : Int) + (dvs.length : Int) = ((dvs.length - 1 : Nat) : Int) := by omega
  have hlt : dvs.length - 1 < dvs.length := by omega
  unfold seqIndex?
  rw [if_pos (show ((-1 : Int) < 0) from by decide)]
  dsimp only
  rw [e, if_pos (by simp; omega)]
  rfl
theorem four_news {h₀ h : Heap} {L : Addr} {a b c d e s : Addr × Obj} {Y : List (Addr × Obj)} (N : News h₀ L h (a :: b :: c :: d :: e :: s :: Y)) : News h₀ L h (s :: a :: b :: c :: d :: e :: Y) := by
  refine KStt.news_of N fun p hp => ?_
  rcases List.mem_cons.mp hp with rfl | hp
  · simp
  · rcases List.mem_cons.mp hp with rfl | hp
    · exact .head _
    · simp only [List.mem_cons] at hp ⊢
      rcases hp with h | h | h | h | h <;> simp [h]
theorem four_done {h₀ h : Heap} {L l1 l2 l3 l4 : Addr} {s wl : Addr × Obj} {Y : List (Addr × Obj)} {v : Value} {M a b : Int} {t1 t1' t1'' t2 t2' t3 t3' t4 t4' : Tok}
    (N : News h₀ L h (s :: wl :: (l4, listOf #[.int (M + 1) t4, .int (M + 2) t4'] 0) :: (l3, listOf #[.int 1 t3, .int (M + 1) t3'] 0) :: (l2, listOf #[.int b t2, .int M t2'] 0) :: (l1, listOf #[.int a t1, .int M t1', .int 5 t1''] 0) :: Y))
    (hv : v ∈ [.ref l1, .ref l2, .ref l3, .ref l4]) :
    ∃ (lw : Addr) (vw : List Value) (nw : List Int), v = .ref lw ∧ IntsAre vw nw ∧ nw ∈ [[a, M, 5], [b, M], [1, M + 1], [M + 1, M + 2]] ∧ News h₀ L h ((lw, listOf vw.toArray 0) :: s :: Y) := by
  have key : ∀ {lw : Addr} {vw : List Value}, (lw, listOf vw.toArray 0) ∈ (s :: wl :: (l4, listOf #[.int (M + 1) t4, .int (M + 2) t4'] 0) :: (l3, listOf #[.int 1 t3, .int (M + 1) t3'] 0) :: (l2, listOf #[.int b t2, .int M t2'] 0) :: (l1, listOf #[.int a t1, .int M t1', .int 5 t1''] 0) :: Y) → News h₀ L h ((lw, listOf vw.toArray 0) :: s :: Y) := by
    intro lw vw hm
    refine KStt.news_of N fun p hp => ?_
    rcases List.mem_cons.mp hp with rfl | hp
    · exact hm
    · rcases List.mem_cons.mp hp with rfl | hp
      · exact .head _
      · exact .tail _ (.tail _ (.tail _ (.tail _ (.tail _ (.tail _ hp)))))
  simp only [List.mem_cons, List.not_mem_nil, or_false] at hv
  rcases hv with rfl | rfl | rfl | rfl
  · exact ⟨l1, [.int a t1, .int M t1', .int 5 t1''], [a, M, 5], rfl, .cons _ _ (.cons _ _ (.cons _ _ .nil)), by k_mem, key (by k_mem)⟩
  · exact ⟨l2, [.int b t2, .int M t2'], [b, M], rfl, .cons _ _ (.cons _ _ .nil), by k_mem, key (by k_mem)⟩
  · exact ⟨l3, [.int 1 t3, .int (M + 1) t3'], [1, M + 1], rfl, .cons _ _ (.cons _ _ .nil), by k_mem, key (by k_mem)⟩
  · exact ⟨l4, [.int (M + 1) t4, .int (M + 2) t4'], [M + 1, M + 2], rfl, .cons _ _ (.cons _ _ .nil), by k_mem, key (by k_mem)⟩
theorem due_bound {many k : Int} {rws : List Row} {due : List (Int × List Int)} {a : Int} (h : Due many k rws due) (ha : a ∈ due.map (·.1)) : 1 ≤ a ∧ a ≤ k := by
  obtain ⟨p, hp, rfl⟩ := List.mem_map.mp ha
  exact h.bound p hp
theorem four_in {nw : List Int} {M a b : Int} (h : nw ∈ [[a, M, 5], [b, M], [1, M + 1], [M + 1, M + 2]]) (h0 : 1 ≤ M) (h5 : M ≤ 5) (ha : 1 ≤ a ∧ a ≤ M) (hb : 1 ≤ b ∧ b ≤ M) : KBa.In nw ∧ nw.length ≤ 50 := by
  simp only [List.mem_cons, List.not_mem_nil, or_false] at h
  rcases h with rfl | rfl | rfl | rfl <;> refine ⟨?_, by simp⟩ <;> intro k hk <;> simp at hk <;> omega
section
variable {h₀ h : Heap} {L : Addr} {a w1 w2 w3 w4 w5 w6 s c r d : Addr × Obj} {Y : List (Addr × Obj)}
theorem six_off (_N : News h₀ L h (a :: w6 :: w5 :: w4 :: w3 :: w2 :: w1 :: s :: c :: r :: d :: Y)) {R : Prop}
    (h1 : @LT.lt Nat _ s.1 w1.1 ∧ @LT.lt Nat _ c.1 w1.1 ∧ @LT.lt Nat _ r.1 w1.1 ∧ @LT.lt Nat _ d.1 w1.1 ∧ AllLt w1.1 Y)
    (h2 : @LT.lt Nat _ w1.1 w2.1 ∧ @LT.lt Nat _ s.1 w2.1 ∧ @LT.lt Nat _ c.1 w2.1 ∧ @LT.lt Nat _ r.1 w2.1 ∧ @LT.lt Nat _ d.1 w2.1 ∧ AllLt w2.1 Y)
    (h3 : @LT.lt Nat _ w2.1 w3.1 ∧ @LT.lt Nat _ w1.1 w3.1 ∧ @LT.lt Nat _ s.1 w3.1 ∧ @LT.lt Nat _ c.1 w3.1 ∧ @LT.lt Nat _ r.1 w3.1 ∧ @LT.lt Nat _ d.1 w3.1 ∧ AllLt w3.1 Y)
    (h4 : @LT.lt Nat _ w3.1 w4.1 ∧ @LT.lt Nat _ w2.1 w4.1 ∧ @LT.lt Nat _ w1.1 w4.1 ∧ @LT.lt Nat _ s.1 w4.1 ∧ @LT.lt Nat _ c.1 w4.1 ∧ @LT.lt Nat _ r.1 w4.1 ∧ @LT.lt Nat _ d.1 w4.1 ∧ AllLt w4.1 Y)
    (h5 : @LT.lt Nat _ w4.1 w5.1 ∧ @LT.lt Nat _ w3.1 w5.1 ∧ @LT.lt Nat _ w2.1 w5.1 ∧ @LT.lt Nat _ w1.1 w5.1 ∧ @LT.lt Nat _ s.1 w5.1 ∧ @LT.lt Nat _ c.1 w5.1 ∧ @LT.lt Nat _ r.1 w5.1 ∧ @LT.lt Nat _ d.1 w5.1 ∧ AllLt w5.1 Y)
    (h6 : @LT.lt Nat _ w5.1 w6.1 ∧ @LT.lt Nat _ w4.1 w6.1 ∧ @LT.lt Nat _ w3.1 w6.1 ∧ @LT.lt Nat _ w2.1 w6.1 ∧ @LT.lt Nat _ w1.1 w6.1 ∧ @LT.lt Nat _ s.1 w6.1 ∧ @LT.lt Nat _ c.1 w6.1 ∧ @LT.lt Nat _ r.1 w6.1 ∧ @LT.lt Nat _ d.1 w6.1 ∧ AllLt w6.1 Y)
    (h7 : @LT.lt Nat _ w6.1 a.1 ∧ R) (hY : ∀ p ∈ c :: r :: d :: Y, p.1 ≠ s.1) : ∀ p ∈ a :: w6 :: w5 :: w4 :: w3 :: w2 :: w1 :: c :: r :: d :: Y, p.1 ≠ s.1 := by
  intro p hp
  rcases List.mem_cons.mp hp with rfl | hp
  · exact Nat.ne_of_gt (Nat.lt_trans h6.2.2.2.2.2.1 h7.1)
  · rcases List.mem_cons.mp hp with rfl | hp
    · exact Nat.ne_of_gt h6.2.2.2.2.2.1
    · rcases List.mem_cons.mp hp with rfl | hp
      · exact Nat.ne_of_gt h5.2.2.2.2.1
      · rcases List.mem_cons.mp hp with rfl | hp
        · exact Nat.ne_of_gt h4.2.2.2.1
        · rcases List.mem_cons.mp hp with rfl | hp
          · exact Nat.ne_of_gt h3.2.2.1
          · rcases List.mem_cons.mp hp with rfl | hp
            · exact Nat.ne_of_gt h2.2.1
            · rcases List.mem_cons.mp hp with rfl | hp
              · exact Nat.ne_of_gt h1.1
              · exact hY p hp
end
theorem small_M {M : Int} (h1 : 1 ≤ M) (h5 : M ≤ 5) : Builtin.Range.small 1 (M + 1) 1 = true := small_one (by omega) (by omega) (by omega) (by omega)
theorem small_r {r : Int} (h1 : 0 ≤ r) (h5 : r < 4) : Builtin.Range.small 0 r 1 = true := small_one (by omega) (by omega) (by omega) (by omega)
theorem size_r4 {r : Int} (h5 : r < 4) : r.toNat ≤ sizeLine := by rw [sizeLine_eq]; omega
theorem len_app {vs : List Value} {x : Value} (h : vs.length ≤ 10) : (vs ++ [x]).length ≤ 60 := by rw [List.length_append]; show vs.length + 1 ≤ 60; omega
theorem turn_hi {M : Int} {i : Nat} (h : i < M.toNat) : (i : Int) + 1 ≤ M := by omega
theorem sz8 {vs : List Value} (h : vs.length ≤ 8) : vs.toArray.size ≤ sizeLine := by rw [List.size_toArray, sizeLine_eq]; omega
theorem top_lo {n : Nat} : (1 : Int) ≤ (n : Int) + 1 := by omega
theorem top_hi {n : Nat} (h : n ≤ 8) : (n : Int) + 1 ≤ 256 := by omega
section
variable {own X : List (Addr × Obj)} {C ol src rl dl : Addr} {oc : Obj} {ovs rvs dvs : List Value} {on : Nat} {M k g sd : Int} {rws : List Row} {due : List (Int × List Int)}
theorem Bag.rl8 (b : Bag own C oc ol ovs on M k g sd src rl dl rvs dvs rws due X) (hk : k + 1 ≤ M) (hM : M ≤ 5) : rvs.length ≤ 8 := by have := b.rlen; omega
theorem Bag.rl10 (b : Bag own C oc ol ovs on M k g sd src rl dl rvs dvs rws due X) (hk : k ≤ M) (hM : M ≤ 5) : rvs.length ≤ 10 := by have := b.rlen; omega
theorem Bag.dl9 (b : Bag own C oc ol ovs on M k g sd src rl dl rvs dvs rws due X) (hk : k + 1 ≤ M) (hM : M ≤ 5) : dvs.length ≤ 1000 := by have := b.dlen; omega
end
theorem five_lo {r : Int} (h : r < 5) : 1 ≤ 5 - r := by omega
theorem five_hi {r : Int} (h : 0 ≤ r) : 5 - r ≤ 5 := by omega
theorem turn_m {M : Int} {i : Nat} (h : (i : Int) + 1 ≤ M) : 1 + (i : Int) ≤ M := by omega
theorem turn_c {i : Nat} : 1 + (i : Int) = (i : Int) + 1 := by omega
theorem turn_z {i : Nat} : 0 ≤ (i : Int) := by omega
theorem len3 {ns : List Int} {r : Int} (h : ns.length = r.toNat) (h4 : r < 4) : ns.length ≤ 3 := by omega
theorem turn_k {i : Nat} : 1 + (i : Int) ≤ ((i + 1 : Nat) : Int) := by omega
theorem turn_6 {M : Int} {i : Nat} (h : (i : Int) + 1 ≤ M) (h5 : M ≤ 5) : 1 + (i : Int) ≤ 6 := by omega
theorem turn_n {i : Nat} : (i : Int) ≤ 1 + (i : Int) := by omega
theorem turn_r {vs : List Value} {i : Nat} (h : (vs.length : Int) ≤ 2 * (i : Int)) : (vs.length : Int) + 1 ≤ 2 * (1 + (i : Int)) := by omega
theorem turn_l {vs : List Value} {i j : Nat} (h : (vs.length : Int) ≤ 2 * (i : Int)) (x : Value) : ((vs.take j ++ [x] ++ vs.drop j : List Value).length : Int) + 1 ≤ 2 * (1 + (i : Int)) := by
  simp only [List.length_append, List.length_take, List.length_drop, List.length_cons, List.length_nil]
  omega
theorem szB {vs : List Value} {j : Nat} {x : Value} (h : vs.length ≤ 8) : (vs.take j).length + [x].length ≤ sizeLine := by
  simp only [sizeLine_eq, List.length_take, List.length_cons, List.length_nil]; omega
theorem szD {vs : List Value} {j : Nat} {x : Value} (h : vs.length ≤ 8) : (vs.take j ++ [x]).length + (vs.drop j).length ≤ sizeLine := by
  simp only [sizeLine_eq, List.length_append, List.length_take, List.length_drop, List.length_cons, List.length_nil]; omega
end Mine
end

section
open PySem PySem.W PyProof.Rows PySem.Calls
set_option maxRecDepth 100000
set_option maxHeartbeats 4000000
namespace Mine
theorem stA (n : Addr) {a} {M A Q E s} (h : wpAny M A (call (Value.ref n) a) Q E s) : wpAny M A (call (Value.ref n) a) Q E s := h
theorem stR {a} {M A Q E s} (h : wpAny M A (call (Value.type "range") a) Q E s) : wpAny M A (call (Value.type "range") a) Q E s := h
theorem stL {r} {M A Q E s} (h : wpAny M A (call (Value.builtin "len") [Value.ref r]) Q E s) : wpAny M A (call (Value.builtin "len") [Value.ref r]) Q E s := h
theorem stB {a} {M A Q E s} (h : wpAny M A (call (Value.builtin "list.append") a) Q E s) : wpAny M A (call (Value.builtin "list.append") a) Q E s := h
theorem stS {a b c d} {M A Q E s} (h : wpAny M A (subscriptTail a b c d) Q E s) : wpAny M A (subscriptTail a b c d) Q E s := h
theorem stO {o a b} {M A Q E s} (h : wpAny M A (compareOp o (Value.ref a) (Value.ref b)) Q E s) : wpAny M A (compareOp o (Value.ref a) (Value.ref b)) Q E s := h
theorem stI {v} {M A Q E s} (h : wpAny M A (pyIter v) Q E s) : wpAny M A (pyIter v) Q E s := h
local macro_rules | `(tactic| walk_at "MyStop") => `(tactic| with_reducible first | refine stA 86 ?_ | refine stA 81 ?_ | refine stA 74 ?_ | refine stA 67 ?_ | refine stC ?_ | refine stR ?_ | refine stL ?_ | refine stB ?_ | refine stS ?_ | refine stO ?_)
local macro_rules | `(tactic| walk_at "MyGo") => `(tactic| (repeat ((fail_if_success (walk_at "MyStop")); (first | (k_unfold; (try dsimp only)) | walk1 | (dsimp only; walk1)))))
local macro_rules | `(tactic| walk_at "eval ListComp") => `(tactic| (k_here; k_dflt (refine LCg.ListComp_U (F₀ := by k_asm) (by rfl) (by decide) (by rfl) (by decide) (by rfl) ?_)))
theorem in13 : KBa.In [1, 3] := by
  intro k hk
  simp at hk
  omega
theorem law_ok : PySem.Challenge.rw_xm0799_01.Holds := by
  refine Mine.hx ?_
  k_go0
  (rename Shared => s1)
  (rename World => w0)
  walk_at "MyGo"
  (rename Top _ _ _ _ _ _ => T)
  (rename Below callerA _ _ _ => K0)
  (rename Frag.In _ _ => KX)
  (rename Heap.IsList _ _ _ => hL)
  (rename IntsAre _ _ => hI)
  (rename News _ _ _ _ => N1)
  (rename Fr _ _ _ _ => F1)
  k_dflt (refine told_ok (rws := [(true, [1, 3]), (true, [1, 3])]) K0 F1 KX N1 T rfl ?hd ?hu ?hl ?hrw ?hret)
  case hd => (show 301 + 1 ≤ 380; decide)
  case hu => (show 4 + 3 ≤ 800; decide)
  case hl => (show 2 ≤ 60; decide)
  case hrw =>
    refine' RowsAre.cons (part := true) (vs := [_, _]) ?m1 ?m2 (.cons 1 _ (.cons 3 _ .nil)) in13 (by decide) (RowsAre.cons (part := true) (vs := [_, _]) ?m3 ?m4 (.cons 1 _ (.cons 3 _ .nil)) in13 (by decide) .nil)
    case m1 => k_mem
    case m2 => k_mem
    case m3 => k_mem
    case m4 => k_mem
  case hret =>
    intro tup1 new1 dat1 h2 tk2 hT1 F2 N2 D1
    (try dsimp only)
    clear F1 N1
    walk_at "MyGo"
    (rename News _ _ _ _ => N3)
    have hT2 := told_first hT1
    subst hT2
    refine cmp_ne_lit N3 (.head _) (ys := []) (.tail _ (.head _)) D1 (fun p hp => .tail _ (.tail _ (List.mem_append.mpr (.inl hp)))) (n₂ := []) .nil (by intro p hp; cases hp) .none (ok_bad true) (by show 4 + 3 + 64 < 9900; decide) ?_
    (try dsimp only)
    walk_at "MyGo"
    (rename Obj.data _ = Data.cell _ => dC)
    (rename Obj => oc)
    (rename Fr _ _ _ _ => F3)
    have N4 := KStt.news_of (b := [(s1.heap.objs.size + 1, oc)]) N3 (by
      intro p hp
      rw [List.mem_singleton.mp hp]
      exact .tail _ (.tail _ (List.mem_append.mpr (.inr (by k_mem)))))
    clear N3 D1 hT1
    k_dflt (refine pool_ok K0 F3 KX N4 T rfl ?hd ?hl hI ?hlay ?hret)
    case hd => (show 301 + 1 + 1 < 1000; decide)
    case hl => exact hL
    case hlay => assumption
    case hret =>
      intro src g0 sd0 ts1 ts2 sn h5 tk5 F5 N5 l5 hg0 hs0 hs1
      (try dsimp only)
      clear F3 N4
      walk_at "MyGo"
      clear dC
      (rename Obj.data _ = Data.cell _ => dC)
      (rename Obj => oc2)
      (rename News _ _ _ _ => N6)
      (rename Fr _ _ _ _ => F6)
      have offc : ∀ p ∈ [(s1.heap.objs.size + 1, oc2)], p.1 ≠ src := by
        intro p hp
        rw [List.mem_singleton.mp hp]
        exact Nat.ne_of_lt (l5 (s1.heap.objs.size + 1, oc) (.head _))
      have hC : s1.heap.objs.size + 1 < src := l5 (s1.heap.objs.size + 1, oc) (.head _)
      clear l5
      k_dflt (refine take_ok K0 F6 KX N6 T rfl ?hd offc hg0 hs0 hs1 (by decide) (by decide) ?_)
      case hd => (show 301 + 1 + 1 < 1000; decide)
      clear hg0 hs0 hs1 F6 N6
      intro r0 rt0 g1 sd1 ts3 ts4 sn1 h7 tk7 F7 N7 hg1 _ hs1 hs2 hr0 hr1
      (try dsimp only)
      walk_at "MyGo"
      (rename News _ _ _ _ => N8)
      (rename Fr _ _ _ _ => F8)
      rename_i rl hx1 lt1 dl hx2 lt2 DT hx3 lt3 hx4 hx5 hx6 hx7 tkx o1 hx8 lt4 o2 hx9 lt5 o3 hx10 lt6 o4 hx11 lt7 ol hx12 lt8 hx13
      have hM1 : 1 ≤ 5 - r0 := five_lo hr1
      have hM5 : 5 - r0 ≤ 5 := five_hi hr0
      generalize 5 - r0 = M at *
      k_dflt (refine range2_rows F8 (arrange N8) ?_)
      intro hA tkA u1 u2 u3 RA FA NA _
      (try dsimp only)
      clear F8 N8
      repeat ((fail_if_success (with_reducible refine stI ?_)); walk1)
      k_dflt (refine range_iter (n := M.toNat) (LJ (s1.heap.objs.size + 1) oc2 ol [.ref o1, .ref o2, .ref o3, .ref o4] 0 M src dl _) rfl RA ?small ?size FA NA ⟨g1, sd1, _, _, _, rl, [], [], 0, 0, [], [], _, rfl, first_bag (M := M) (oc := oc2) hC lt1.1 lt2.1 lt4.2.1 lt5.2.2.1 lt6.2.2.2.1 lt7.2.2.2.2.1 lt8.2.2.2.2.2.1 hg1 hs1 hs2 (.cons 73 _ (.cons 67 _ (.cons 67 _ .nil))) (.cons 73 _ (.cons 67 _ (.cons 67 _ (.cons 95 _ (.cons 80 _ (.cons 82 _ (.cons 79 _ (.cons 70 _ (.cons 73 _ (.cons 76 _ (.cons 69 _ (.cons 1 _ (.cons 1 _ (.cons 1 _ .nil)))))))))))))) (.cons 1 _ (.cons 1 _ (.cons 9 _ .nil))), rfl, fun z _ _ _ _ => rfl⟩ ?turn ?done)
      case small => exact small_M hM1 hM5
      case size => exact size_M hM1
      case done =>
        rintro m₁ nx hh tk' ⟨g, sd, t1, t2, sn, rl', rvs, dvs, rn, dn, rws, due, X, rfl, bag, hm1, hm2⟩ F2 N2
        rw [mapL hm1 hm2] at F2
        have N2 := bag.stand (own := []) (by rw [List.append_nil]; exact N2)
        clear FA NA RA
        have hk5 : ((M.toNat : Nat) : Int) ≤ M := Int.le_of_eq (Int.toNat_of_nonneg (Int.le_trans (by decide) hM1))
        have hr8 : rvs.length ≤ 10 := bag.rl10 hk5 hM5
        dsimp only at F2 ⊢
        (try k_fold)
        walk_at "MyGo"
        have N3 := fore3 N2
        k_dflt (refine told_ok K0 (by k_asm) KX N3 T rfl ?hdA ?huA (Nat.le_trans hr8 (by decide)) (bag.rows.mono fun p hp => .tail _ (.tail _ (.tail _ (List.mem_append.mpr (.inl hp))))) ?hretA)
        case hdA => (show 301 + 1 ≤ 380; decide)
        case huA => (show 4 + 3 ≤ 800; decide)
        case hretA =>
          intro tup2 new2 dat2 h3 tk3 hT2 F3 N4 D2
          have hd2 := told_due bag.due hT2
          subst hd2
          have N5 := toldN N4
          clear N4 N3 N2 F2 hT2
          (try dsimp only)
          by_cases hdue : due = []
          · skip
            rw [if_pos hdue] at D2
            walk_at "MyGo"
            (rename News _ _ _ _ => N6)
            k_dflt (refine cmp_due_ne (dn := dn) N6 (.head _) (by k_mem) bag.dues (fun p hp => .tail _ (.tail _ (.tail _ (.tail _ (.tail _ (List.mem_append.mpr (.inl (List.mem_append.mpr (.inl hp))))))))) (by show 4 + 3 + 64 < 9900; decide) (b := true) (iff_of_true hdue rfl) ?_)
            (try dsimp only)
            walk_at "MyGo"
            (rename News _ _ _ _ => N7)
            k_dflt (refine cmp_ne_lit (k := dn) N7 (.head _) (by k_mem) D2 (fun p hp => .tail _ (.tail _ (.tail _ (.tail _ (.tail _ (.tail _ (List.mem_append.mpr (.inr hp)))))))) bag.dues (fun p hp => .tail _ (.tail _ (.tail _ (.tail _ (.tail _ (.tail _ (List.mem_append.mpr (.inl (List.mem_append.mpr (.inl hp)))))))))) .none (ok_due due _) (by show 4 + 3 + 64 < 9900; decide) ?_)
            have N8 := KStt.news_of (b := (src, listOf #[.int g t1, .int sd t2] sn) :: (s1.heap.objs.size + 1, oc2) :: (rl', listOf rvs.toArray rn) :: (dl, listOf dvs.toArray dn) :: (X ++ [])) N7 (by
              intro p hp
              rcases List.mem_cons.mp hp with rfl | hp
              · exact .tail _ (.tail _ (.head _))
              · rcases List.mem_cons.mp hp with rfl | hp
                · exact .tail _ (.tail _ (.tail _ (.head _)))
                · rcases List.mem_cons.mp hp with rfl | hp
                  · exact .tail _ (.tail _ (.tail _ (.tail _ (.head _))))
                  · rcases List.mem_cons.mp hp with rfl | hp
                    · exact .tail _ (.tail _ (.tail _ (.tail _ (.tail _ (.head _)))))
                    · exact .tail _ (.tail _ (.tail _ (.tail _ (.tail _ (.tail _ (List.mem_append.mpr (.inl hp))))))))
            clear N7 D2
            (try dsimp only)
            walk_at "MyGo"
            (rename News _ _ _ _ => N9)
            k_dflt (refine one_ok K0 (by k_asm) KX (six_news N9) T rfl (by show 301 + 1 + 2 < 1000; decide) (six_off N9 (by assumption) (by assumption) (by assumption) (by assumption) (by assumption) (by assumption) (by assumption) bag.offS) bag.hg bag.hs bag.hs1 (by simp) (by simp) ?_)
            intro v9 g8 sd8 t11 t12 sn8 h24 tk24 F24 N10 hg8 _ hs13 hs14 hv9
            have bag := bag.took hg8 hs13 hs14
            obtain ⟨lw, vw, nw, rfl, hiw, hnw, N11⟩ := six_done N10 hv9
            clear N9 N10 hv9
            (try dsimp only)
            walk_at "MyGo"
            (rename News _ _ _ _ => N13)
            k_dflt (refine told_ok K0 (by k_asm) KX N13 T rfl (by show 301 + 1 ≤ 380; decide) (by show 4 + 3 ≤ 800; decide) ?hlP (rows_wrong bag.rows hiw (six_in hnw hM1 hM5)) ?_)
            case hlP => exact len_app hr8
            intro tup3 new3 dat3 h28 tk28 hT3 F28 N14 D3
            have hd3 := told_bad bag.due (bad_odd hM1 hnw) hT3
            subst hd3
            have N15 := toldN4 N14
            clear N13 N14 hT3
            (try dsimp only)
            walk_at "MyGo"
            (rename News _ _ _ _ => N16)
            k_dflt (refine cmp_ne_lit (k := 0) N16 (.head _) (ys := []) (.tail _ (.head _)) D3 (fun p hp => .tail _ (.tail _ (.tail _ (.tail _ (.tail _ (.tail _ (List.mem_append.mpr (.inr hp)))))))) (n₂ := []) .nil (by intro p hp; cases hp) .none (ok_bad false) (by show 4 + 3 + 64 < 9900; decide) ?_)
            have N17 := KStt.news_of (b := (src, listOf #[.int g8 t11, .int sd8 t12] sn8) :: (s1.heap.objs.size + 1, oc2) :: (rl', listOf rvs.toArray rn) :: (dl, listOf dvs.toArray dn) :: (X ++ [])) N16 (by
              intro p hp
              rcases List.mem_cons.mp hp with rfl | hp
              · exact .tail _ (.tail _ (.head _))
              · rcases List.mem_cons.mp hp with rfl | hp
                · exact .tail _ (.tail _ (.tail _ (.head _)))
                · rcases List.mem_cons.mp hp with rfl | hp
                  · exact .tail _ (.tail _ (.tail _ (.tail _ (.head _))))
                  · rcases List.mem_cons.mp hp with rfl | hp
                    · exact .tail _ (.tail _ (.tail _ (.tail _ (.tail _ (.head _)))))
                    · exact .tail _ (.tail _ (.tail _ (.tail _ (.tail _ (.tail _ (List.mem_append.mpr (.inl hp))))))))
            clear N16 D3
            (try dsimp only)
            walk_at "MyGo"
            (rename News _ _ _ _ => N18)
            k_dflt (refine cmp_due_eq (dn := dn) N18 (.head _) (by k_mem) bag.dues (fun p hp => .tail _ (.tail _ (.tail _ (.tail _ (.tail _ (List.mem_append.mpr (.inl hp))))))) (by show 4 + 3 + 64 < 9900; decide) (b := true) (iff_of_true hdue rfl) ?_)
            (try dsimp only)
            walk_at "MyGo"
            (try dsimp only)
            k_steps
          · skip
            rw [if_neg hdue] at D2
            walk_at "MyGo"
            (rename News _ _ _ _ => N6)
            k_dflt (refine cmp_due_ne (dn := dn) N6 (.head _) (by k_mem) bag.dues (fun p hp => .tail _ (.tail _ (.tail _ (.tail _ (.tail _ (List.mem_append.mpr (.inl (List.mem_append.mpr (.inl hp))))))))) (by show 4 + 3 + 64 < 9900; decide) (b := false) (iff_of_false hdue (by decide)) ?_)
            (try dsimp only)
            walk_at "MyGo"
            (rename News _ _ _ _ => N7)
            k_dflt (refine cmp_ne_lit (k := dn) N7 (.head _) (by k_mem) D2 (fun p hp => .tail _ (.tail _ (.tail _ (.tail _ (.tail _ (.tail _ (List.mem_append.mpr (.inr hp)))))))) bag.dues (fun p hp => .tail _ (.tail _ (.tail _ (.tail _ (.tail _ (.tail _ (List.mem_append.mpr (.inl (List.mem_append.mpr (.inl hp)))))))))) (.int _ _) (ok_due due _) (by show 4 + 3 + 64 < 9900; decide) ?_)
            have N8 := KStt.news_of (b := (src, listOf #[.int g t1, .int sd t2] sn) :: (s1.heap.objs.size + 1, oc2) :: (rl', listOf rvs.toArray rn) :: (dl, listOf dvs.toArray dn) :: (X ++ [])) N7 (by
              intro p hp
              rcases List.mem_cons.mp hp with rfl | hp
              · exact .tail _ (.tail _ (.head _))
              · rcases List.mem_cons.mp hp with rfl | hp
                · exact .tail _ (.tail _ (.tail _ (.head _)))
                · rcases List.mem_cons.mp hp with rfl | hp
                  · exact .tail _ (.tail _ (.tail _ (.tail _ (.head _))))
                  · rcases List.mem_cons.mp hp with rfl | hp
                    · exact .tail _ (.tail _ (.tail _ (.tail _ (.tail _ (.head _)))))
                    · exact .tail _ (.tail _ (.tail _ (.tail _ (.tail _ (.tail _ (List.mem_append.mpr (.inl hp))))))))
            clear N7 D2
            (try dsimp only)
            walk_at "MyGo"
            (rename News _ _ _ _ => N9)
            k_dflt (refine one_ok K0 (by k_asm) KX (six_news N9) T rfl (by show 301 + 1 + 2 < 1000; decide) (six_off N9 (by assumption) (by assumption) (by assumption) (by assumption) (by assumption) (by assumption) (by assumption) bag.offS) bag.hg bag.hs bag.hs1 (by simp) (by simp) ?_)
            intro v9 g8 sd8 t11 t12 sn8 h24 tk24 F24 N10 hg8 _ hs13 hs14 hv9
            have bag := bag.took hg8 hs13 hs14
            obtain ⟨lw, vw, nw, rfl, hiw, hnw, N11⟩ := six_done N10 hv9
            clear N9 N10 hv9
            (try dsimp only)
            walk_at "MyGo"
            (rename News _ _ _ _ => N13)
            k_dflt (refine told_ok K0 (by k_asm) KX N13 T rfl (by show 301 + 1 ≤ 380; decide) (by show 4 + 3 ≤ 800; decide) ?hlQ (rows_wrong bag.rows hiw (six_in hnw hM1 hM5)) ?_)
            case hlQ => exact len_app hr8
            intro tup3 new3 dat3 h28 tk28 hT3 F28 N14 D3
            have hd3 := told_bad bag.due (bad_odd hM1 hnw) hT3
            subst hd3
            have N15 := toldN4 N14
            clear N13 N14 hT3
            (try dsimp only)
            walk_at "MyGo"
            (rename News _ _ _ _ => N16)
            k_dflt (refine cmp_ne_lit (k := 0) N16 (.head _) (ys := []) (.tail _ (.head _)) D3 (fun p hp => .tail _ (.tail _ (.tail _ (.tail _ (.tail _ (.tail _ (List.mem_append.mpr (.inr hp)))))))) (n₂ := []) .nil (by intro p hp; cases hp) .none (ok_bad false) (by show 4 + 3 + 64 < 9900; decide) ?_)
            have N17 := KStt.news_of (b := (src, listOf #[.int g8 t11, .int sd8 t12] sn8) :: (s1.heap.objs.size + 1, oc2) :: (rl', listOf rvs.toArray rn) :: (dl, listOf dvs.toArray dn) :: (X ++ [])) N16 (by
              intro p hp
              rcases List.mem_cons.mp hp with rfl | hp
              · exact .tail _ (.tail _ (.head _))
              · rcases List.mem_cons.mp hp with rfl | hp
                · exact .tail _ (.tail _ (.tail _ (.head _)))
                · rcases List.mem_cons.mp hp with rfl | hp
                  · exact .tail _ (.tail _ (.tail _ (.tail _ (.head _))))
                  · rcases List.mem_cons.mp hp with rfl | hp
                    · exact .tail _ (.tail _ (.tail _ (.tail _ (.tail _ (.head _)))))
                    · exact .tail _ (.tail _ (.tail _ (.tail _ (.tail _ (.tail _ (List.mem_append.mpr (.inl hp))))))))
            clear N16 D3
            (try dsimp only)
            walk_at "MyGo"
            (rename News _ _ _ _ => N18)
            k_dflt (refine cmp_due_eq (dn := dn) N18 (.head _) (by k_mem) bag.dues (fun p hp => .tail _ (.tail _ (.tail _ (.tail _ (.tail _ (List.mem_append.mpr (.inl hp))))))) (by show 4 + 3 + 64 < 9900; decide) (b := false) (iff_of_false hdue (by decide)) ?_)
            have N19 := KStt.news_of (b := (src, listOf #[.int g8 t11, .int sd8 t12] sn8) :: (s1.heap.objs.size + 1, oc2) :: (rl', listOf rvs.toArray rn) :: (dl, listOf dvs.toArray dn) :: (X ++ [])) N18 (fun p hp => .tail _ hp)
            clear N18
            (try dsimp only)
            walk_at "MyGo"
            obtain ⟨p0, q0, T0, U0, n0, n0', tt0, tt0', x0, x0', ha0, hb0, hx0, mT0, hsi, hx1, mU0⟩ := due_two bag.dues hdue
            (rename News _ _ _ _ => NA1)
            k_dflt (refine' item_litK (vs := dvs) (v := .ref T0) (News.isList NA1 ?mS1) ?h0S1 ?h1S1 ?hxS1 ?_ ?hsS1; (case mS1 => k_mem); (case h0S1 => decide); (case h1S1 => decide); (case hxS1 => exact hx0); (case hsS1 => with_unfolding_all rfl))
            (try dsimp only)
            walk_at "MyGo"
            (rename News _ _ _ _ => NA2)
            k_dflt (refine' item_tupleT (l := [.int p0.1 tt0, x0]) (j := 0) (x := .int p0.1 tt0) (News.isTup NA2 ?mS2) ?loS2 ?hiS2 ?hjS2 ?hxS2 ?_ ?hsS2; (case mS2 => exact (.tail _ (.tail _ (.tail _ (.tail _ (List.mem_append.mpr (.inl mT0))))))); (case loS2 => decide); (case hiS2 => decide); (case hjS2 => rfl); (case hxS2 => rfl); (case hsS2 => with_unfolding_all rfl))
            (try dsimp only)
            walk_at "MyGo"
            (rename News _ _ _ _ => NA3)
            k_dflt (refine' kde_neg (vs := dvs) (v := .ref U0) (j := dvs.length - 1) (News.isList NA3 ?mS3) ?loS3 ?hiS3 ?hjS3 ?hxS3 ?_ ?hsS3; (case mS3 => k_mem); (case loS3 => decide); (case hiS3 => decide); (case hjS3 => exact hsi); (case hxS3 => exact hx1); (case hsS3 => with_unfolding_all rfl))
            (try dsimp only)
            walk_at "MyGo"
            (rename News _ _ _ _ => NA4)
            k_dflt (refine' item_tupleT (l := [.int q0.1 tt0', x0']) (j := 0) (x := .int q0.1 tt0') (News.isTup NA4 ?mS4) ?loS4 ?hiS4 ?hjS4 ?hxS4 ?_ ?hsS4; (case mS4 => exact .tail _ (.tail _ (.tail _ (.tail _ (.tail _ (List.mem_append.mpr (.inl mU0))))))); (case loS4 => decide); (case hiS4 => decide); (case hjS4 => rfl); (case hxS4 => rfl); (case hsS4 => with_unfolding_all rfl))
            (try dsimp only)
            walk_at "MyGo"
            (rename News _ _ _ _ => NA5)
            k_dflt (refine one_ok K0 (by k_asm) KX (four_news NA5) T rfl (by show 301 + 1 + 2 < 1000; decide) ?hoW bag.hg bag.hs bag.hs1 (by simp) (by simp) ?_)
            case hoW =>
              intro p hp
              rcases List.mem_cons.mp hp with rfl | hp
              · k_ne
              · rcases List.mem_cons.mp hp with rfl | hp
                · k_ne
                · rcases List.mem_cons.mp hp with rfl | hp
                  · k_ne
                  · rcases List.mem_cons.mp hp with rfl | hp
                    · k_ne
                    · rcases List.mem_cons.mp hp with rfl | hp
                      · k_ne
                      · exact bag.offS p hp
            intro v10 g9 sd9 t13 t14 sn9 h30 tk30 F30 NA6 hg9 _ hs15 hs16 hv10
            obtain ⟨lx, vx, nx9, rfl, hix, hnx, NA7⟩ := four_done NA6 hv10
            clear NA5 NA6 hv10
            (try dsimp only)
            walk_at "MyGo"
            (rename News _ _ _ _ => NA8)
            have da0 := due_bound bag.due ha0
            have db0 := due_bound bag.due hb0
            k_dflt (refine told_ok K0 (by k_asm) KX NA8 T rfl (by show 301 + 1 ≤ 380; decide) (by show 4 + 3 ≤ 800; decide) ?hlW (rows_wrong bag.rows hix (four_in hnx hM1 hM5 ⟨da0.1, Int.le_trans da0.2 hk5⟩ ⟨db0.1, Int.le_trans db0.2 hk5⟩)) ?_)
            case hlW => exact len_app hr8
            intro tup4 new4 dat4 h31 tk31 hT4 F31 NA9 D4
            have hd4 := told_bad bag.due (bad_unfit bag.due hk5 hdue ha0 hb0 hnx) hT4
            subst hd4
            have NB1 := toldN4 NA9
            clear NA8 NA9 hT4
            (try dsimp only)
            walk_at "MyGo"
            (rename News _ _ _ _ => NB2)
            k_dflt (refine cmp_eq_lit (k := 0) NB2 (.head _) (ys := []) (.tail _ (.head _)) D4 (fun p hp => .tail _ (.tail _ (.tail _ (.tail _ (.tail _ (.tail _ (List.mem_append.mpr (.inr hp)))))))) (n₂ := []) .nil (by intro p hp; cases hp) .none (ok_bad true) (by show 4 + 3 + 64 < 9900; decide) ?_)
            (try dsimp only)
            k_steps
      case turn =>
        rintro i it m₁ nx hh tk' own hi hoff ⟨g, sd, t1, t2, sn, rl', rvs, dvs, rn, dn, rws, due, X, rfl, bag, hm1, hm2⟩ F2 N2
        have bag := bag.enter hoff
        have hi5 : (i : Int) + 1 ≤ M := turn_hi hi
        have hr8 : rvs.length ≤ 8 := bag.rl8 hi5 hM5
        have hrl : (rvs.length : Int) ≤ 2 * (i : Int) := bag.rlen
        have N2 := bag.stand N2
        rw [mapL hm1 hm2] at F2
        clear FA NA RA hoff
        dsimp only at F2 ⊢
        (try k_fold)
        walk_at "MyGo"
        k_dflt (refine take_ok K0 F2 KX N2 T rfl ?hd bag.offS bag.hg bag.hs bag.hs1 (by decide) (by decide) ?_)
        case hd => (show 301 + 1 + 1 < 1000; decide)
        intro r1 rt1 g2 sd2 ts5 ts6 sn2 h8 tk8 F3 N3 hg2 _ hs3 hs4 hr2 hr3
        have bag := bag.took hg2 hs3 hs4
        clear F2 N2
        (try dsimp only)
        walk_at "MyGo"
        k_dflt (refine range1_rows F3 N3 ?_)
        intro hB tkB u1 u2 u3 RB FB NB _
        clear F3 N3
        (try dsimp only)
        walk_at "MyGo"
        refine LCg.CompSrc.range rfl FB NB RB (small_r hr2 hr3) (size_r hr2) (size_r4 hr3) (fun gg => comp_rest (fun j ys nw => ∃ (g sd : Int) (t1 t2 : Tok) (sn : Nat) (ns : List Int), nw = (src, listOf #[.int g t1, .int sd t2] sn) :: (s1.heap.objs.size + 1, oc2) :: (rl', listOf rvs.toArray rn) :: (dl, listOf dvs.toArray dn) :: (X ++ own) ∧ 0 ≤ g ∧ 0 ≤ sd ∧ sd < 2147483647 ∧ IntsAre ys ns ∧ KBa.In ns ∧ ns.length = j) ⟨g2, sd2, ts5, ts6, sn2, [], rfl, hg2, hs3, hs4, .nil, (by intro k hk; cases hk), rfl⟩ ?cturn ?cfin)
        case cturn =>
          rintro j v ys nw I oI C' oC D m₂ h4 tk4 E' hj hP ⟨g3, sd3, t3, t4, sn3, ns, rfl, hg3, hs5, hs6, hys, hin, hnl⟩ hC' hx F4 N4 off ne
          have N5 := KStt.news_of (b := (src, listOf #[.int g3 t3, .int sd3 t4] sn3) :: (s1.heap.objs.size + 1, oc2) :: (I, oI) :: (C', oC) :: (D, LCg.lst ys) :: (rl', listOf rvs.toArray rn) :: (dl, listOf dvs.toArray dn) :: (X ++ own)) N4 (by
            intro p hp
            rcases List.mem_cons.mp hp with rfl | hp
            · exact .tail _ (.tail _ (.tail _ (.head _)))
            · rcases List.mem_cons.mp hp with rfl | hp
              · exact .tail _ (.tail _ (.tail _ (.tail _ (.head _))))
              · rcases List.mem_cons.mp hp with rfl | hp
                · exact .head _
                · rcases List.mem_cons.mp hp with rfl | hp
                  · exact .tail _ (.head _)
                  · rcases List.mem_cons.mp hp with rfl | hp
                    · exact .tail _ (.tail _ (.head _))
                    · exact .tail _ (.tail _ (.tail _ (.tail _ (.tail _ hp)))))
          clear N4
          (try dsimp only)
          walk_at "MyGo"
          have hoff5 : ∀ p ∈ (s1.heap.objs.size + 1, oc2) :: (I, oI) :: (C', oC) :: (D, LCg.lst ys) :: (rl', listOf rvs.toArray rn) :: (dl, listOf dvs.toArray dn) :: (X ++ own), p.1 ≠ src := by
            intro p hp
            rcases List.mem_cons.mp hp with rfl | hp
            · exact (bag.offX _ (List.mem_append.mpr (.inl bag.cell))).1
            · rcases List.mem_cons.mp hp with rfl | hp
              · exact Ne.symm off.1.1
              · rcases List.mem_cons.mp hp with rfl | hp
                · exact Ne.symm off.1.2.1
                · rcases List.mem_cons.mp hp with rfl | hp
                  · exact Ne.symm off.1.2.2
                  · exact bag.offS p (.tail _ hp)
          k_dflt (refine take_ok K0 F4 KX N5 T rfl ?hd hoff5 hg3 hs5 hs6 (by decide) (by decide) ?_)
          case hd => (show 301 + 1 + 1 < 1000; decide)
          intro r9 rt9 g9 sd9 t9 t9' sn9 h9 tk9 F9 N9 hg9 _ hs9 hs9' hr9 hr9'
          k_unfold
          refine LCg.CompEnd.intro F9 N9 ((src, listOf #[.int g9 t9, .int sd9 t9'] sn9) :: (s1.heap.objs.size + 1, oc2) :: (rl', listOf rvs.toArray rn) :: (dl, listOf dvs.toArray dn) :: (X ++ own)) ?sub off trivial ⟨g9, sd9, t9, t9', sn9, ns ++ [r9], rfl, hg9, hs9, hs9', ints_snoc hys, in_snoc hin hr9 hr9', by rw [List.length_append, hnl]; rfl⟩
          intro p hp
          rcases List.mem_cons.mp hp with rfl | hp
          · exact .tail _ (.tail _ (.head _))
          · rcases List.mem_cons.mp hp with rfl | hp
            · exact .tail _ (.tail _ (.tail _ (.head _)))
            · rcases List.mem_cons.mp hp with rfl | hp
              · exact .tail _ (.tail _ (.tail _ (.tail _ (.head _))))
              · rcases List.mem_cons.mp hp with rfl | hp
                · exact .head _
                · rcases List.mem_cons.mp hp with rfl | hp
                  · exact .tail _ (.head _)
                  · exact .tail _ (.tail _ (.tail _ (.tail _ (.tail _ hp))))
        case cfin =>
          rintro ys nw ⟨g3, sd3, t3, t4, sn3, ns, rfl, hg3, hs5, hs6, hys, hin, hnl⟩
          unfold LCg.FinA
          intro pl h6 tk6 F6 N6 o6
          have bag := (bag.took hg3 hs5 hs6).grow (o := LCg.lst ys) (os := listOf #[.int g3 t3, .int sd3 t4] sn3) (orl := listOf rvs.toArray rn) (od := listOf dvs.toArray dn) (off1_mem o6)
          have N7 := in1 N6
          clear FB NB RB N6 o6
          (try dsimp only)
          walk_at "MyGo"
          k_dflt (refine take_ok K0 (by k_asm) KX N7 T rfl ?hd bag.offS hg3 hs5 hs6 (by decide) (by decide) ?_)
          case hd => (show 301 + 1 + 1 < 1000; decide)
          intro r4 rt4 g4 sd4 t5 t6 sn4 h7 tk7' F7' N7' hg4 _ hs7 hs8 hr4 hr5
          have bag := bag.took hg4 hs7 hs8
          clear N7
          (try dsimp only)
          walk_at "MyGo"
          · (rename News _ _ _ _ => N8)
            (rename _ ∧ _ => lT)
            have bag := bag.grow (o := ({ cls := .type "tuple", data := .seq #[.int (1 + (i : Int)) it, .ref pl] } : Obj)) (os := listOf #[.int g4 t5, .int sd4 t6] sn4) (orl := listOf rvs.toArray rn) (od := listOf dvs.toArray dn) (Mine.lt5 lT)
            have N9 := fore4 (in1 N8)
            k_dflt (refine app_K (by k_asm) N9 bag.offD (bag.dl9 hi5 hM5) ?_)
            intro h10 F10 N10
            have N11 := back4 N10
            clear N8 N9 N10
            (try dsimp only)
            walk_at "MyGo"
            refine PyProof.Rows.len_list (News.isList N11 (.tail _ (.tail _ (.head _)))) (by have := bag.rlen; rw [List.size_toArray]; omega) ?_
            have hsz9 : rvs.toArray.size = rvs.length := List.size_toArray
            rw [hsz9]
            walk_at "MyGo"
            k_dflt (refine take_ok K0 (by k_asm) KX N11 T rfl ?hd bag.offS hg4 hs7 hs8 top_lo (top_hi hr8) ?_)
            case hd => (show 301 + 1 + 1 < 1000; decide)
            intro r6 rt6 g6 sd6 t7 t8 sn6 h12 tk12 F12 N12 hg6 _ hs9 hs10 hr6 hr7
            have bag := bag.took hg6 hs9 hs10
            clear N11
            (try dsimp only)
            walk_at "MyGo"
            (rename Fr _ _ _ _ => F13)
            (rename News _ _ _ _ => N13)
            k_dflt (refine' kms_slice_lit (its := rvs.toArray) (zs := rvs.take r6.toNat) F13 N13 (News.isList N13 (.tail _ (.tail _ (.head _)))) ?pA ?qA ?eA ?_ ?sA ?tA ?zA; (case pA => kmk_part); (case qA => kmk_part); (case sA => with_unfolding_all rfl); (case tA => kmk_pure); (case zA => exact sz8 hr8); (case eA => exact pick_to hr6))
            intro a1 h13 F14 N14 l14
            (try dsimp only)
            walk_at "MyGo"
            (rename Fr _ _ _ _ => F15)
            (rename News _ _ _ _ => N15)
            k_dflt (refine' kmk_add_lit (its := (rvs.take r6.toNat).toArray) F15 N15 (News.isList N15 ?mA) (News.isList N15 (.head _)) ?eB ?_ ?zB; (case mA => k_mem); (case eB => exact rfl); (case zB => exact szB hr8))
            intro q4 h16 F16 N16 l16
            (try dsimp only)
            clear F15 N15
            walk_at "MyGo"
            (rename Fr _ _ _ _ => F17)
            (rename News _ _ _ _ => N17)
            k_dflt (refine' kms_slice_lit (its := rvs.toArray) (zs := rvs.drop r6.toNat) F17 N17 (News.isList N17 ?mC) ?pC ?qC ?eC ?_ ?sC ?tC ?zC; (case mC => k_mem); (case pC => kmk_part); (case qC => kmk_part); (case sC => with_unfolding_all rfl); (case tC => kmk_pure); (case zC => exact sz8 hr8); (case eC => exact pick_from hr6))
            intro q5 h18 F18 N18 l18
            clear F17 N17
            (try dsimp only)
            walk_at "MyGo"
            (rename Fr _ _ _ _ => F19)
            (rename News _ _ _ _ => N19)
            k_dflt (refine' kmk_add_lit F19 N19 (News.isList N19 ?mD) (News.isList N19 (.head _)) ?eD ?_ ?zD; (case mD => k_mem); (case eD => exact rfl); (case zD => exact szD hr8))
            intro q6 h20 F20 N20 l20
            (try dsimp only)
            clear F19 N19
            walk_at "MyGo"
            (rename News _ _ _ _ => N21)
            (rename IntsAre _ ([1 + (i : Int), M] ++ ns) => hqi)
            obtain ⟨bag, N22⟩ := part_done (n := 1 + (i : Int)) (k := (i : Int)) (j := r6.toNat) (o := ns) bag turn_c turn_z (turn_m hi5) hM5 N21 (by assumption) (by assumption) l20 hqi hys hin (len3 hnl hr3)
            have hlr : ∀ x : Value, ((rvs.take r6.toNat ++ [x] ++ rvs.drop r6.toNat : List Value).length : Int) + 1 ≤ 2 * (1 + (i : Int)) := fun x => turn_l hrl x
            clear N21
            k_dflt (refine take_ok K0 (by k_asm) KX N22 T rfl ?hd bag.offS bag.hg bag.hs bag.hs1 (by decide) (by decide) ?_)
            case hd => (show 301 + 1 + 1 < 1000; decide)
            intro r7 rt7 g7 sd7 t9 t10 sn7 h22 tk22 F22 N23 hg7 _ hs11 hs12 _ _
            have bag := bag.took hg7 hs11 hs12
            clear N22
            (try dsimp only)
            walk_at "MyGo"
            · k_dflt (refine one_ok K0 (by k_asm) KX (bag.foreO N23) T rfl ?hd bag.offO bag.hg bag.hs bag.hs1 (by simp) (by simp) ?_)
              case hd => (show 301 + 1 + 2 < 1000; decide)
              intro v9 g8 sd8 t11 t12 sn8 h24 tk24 F24 N25 hg8 _ hs13 hs14 hv9
              obtain ⟨lo, ko, vo, no, rfl, hlo, hio, hino, hleno, hnpo⟩ := bag.othv v9 hv9
              have bag := bag.took hg8 hs13 hs14
              have N26 := backO N25
              clear N25 N23
              (try dsimp only)
              walk_at "MyGo"
              (rename News _ _ _ _ => N27)
              (rename _ ∧ _ => lT2)
              obtain ⟨bag, N28⟩ := grow_N bag N27 lT2
              k_dflt (refine app_K (by k_asm) (fore3 N28) bag.offR (bag.rle (turn_6 hi5 hM5)) ?_)
              intro h26 F26 N29
              have N30 := back3 N29
              have bag := bag.other (.head _) (.tail _ hlo) hio hino hleno hnpo (hlr _)
              clear N27 N28 N29
              (try dsimp only)
              walk_at "MyGo"
              k_dflt (refine turn_end (by k_asm) N30 bag turn_k (by rfl) ?_)
              intro z z1 z2 z3 z4
              simp only [if_neg z1, if_neg z2, if_neg z3, if_neg z4]
            · walk_at "MyGo"
              k_dflt (refine turn_end (by k_asm) N23 bag turn_k (by rfl) ?_)
              intro z z1 z2 z3 z4
              simp only [if_neg z1, if_neg z2, if_neg z3, if_neg z4]
          · (rename News _ _ _ _ => N22)
            have bag := bag.next (k' := 1 + (i : Int)) turn_n
            walk_at "MyGo"
            k_dflt (refine take_ok K0 (by k_asm) KX N22 T rfl ?hd bag.offS bag.hg bag.hs bag.hs1 (by decide) (by decide) ?_)
            case hd => (show 301 + 1 + 1 < 1000; decide)
            intro r7 rt7 g7 sd7 t9 t10 sn7 h22 tk22 F22 N23 hg7 _ hs11 hs12 _ _
            have bag := bag.took hg7 hs11 hs12
            clear N22
            (try dsimp only)
            walk_at "MyGo"
            · k_dflt (refine one_ok K0 (by k_asm) KX (bag.foreO N23) T rfl ?hd bag.offO bag.hg bag.hs bag.hs1 (by simp) (by simp) ?_)
              case hd => (show 301 + 1 + 2 < 1000; decide)
              intro v9 g8 sd8 t11 t12 sn8 h24 tk24 F24 N25 hg8 _ hs13 hs14 hv9
              obtain ⟨lo, ko, vo, no, rfl, hlo, hio, hino, hleno, hnpo⟩ := bag.othv v9 hv9
              have bag := bag.took hg8 hs13 hs14
              have N26 := backO N25
              clear N25 N23
              (try dsimp only)
              walk_at "MyGo"
              (rename News _ _ _ _ => N27)
              (rename _ ∧ _ => lT2)
              obtain ⟨bag, N28⟩ := grow_N bag N27 lT2
              k_dflt (refine app_K (by k_asm) (fore3 N28) bag.offR (bag.rle (turn_6 hi5 hM5)) ?_)
              intro h26 F26 N29
              have N30 := back3 N29
              have bag := bag.other (.head _) (.tail _ hlo) hio hino hleno hnpo (turn_r hrl)
              clear N27 N28 N29
              (try dsimp only)
              walk_at "MyGo"
              k_dflt (refine turn_end (by k_asm) N30 bag turn_k (by rfl) ?_)
              intro z z1 z2 z3 z4
              simp only [if_neg z1, if_neg z2, if_neg z3, if_neg z4]
            · walk_at "MyGo"
              k_dflt (refine turn_end (by k_asm) N23 bag turn_k (by rfl) ?_)
              intro z z1 z2 z3 z4
              simp only [if_neg z1, if_neg z2, if_neg z3, if_neg z4]
end Mine
end

theorem PySem.Challenge.cw_xm0799_01_holds : PySem.Challenge.rw_xm0799_01.Holds := by
  exact Mine.law_ok
